import PyProof.Rows.All
import Wide.All
import OpenK.AllK
import Wide.FinOn
import HandS.ForMost
import HandS.ForExc
import HandS.Conv
import HandS.IsInst
import HandS.Style
import HandS.Wide
import HandS.SortInts
import HandS.TupAny
import HandS.ExcOwn
import HandS.TryOnly
import HandS.EndBits
import HandS.RaiseMore
import HandS.SortRule
import HandS.TupSets
import PyProof.ReprLen
import HandS.DictTup
import HandS.TupMul
import HandS.Dict
import HandS.ExcInit
import HandS.ExcField
import HandS.FStr
import KE.KExcSuper
import HandS.ClsMeth
import HandS.Strs
import PySem.Challenge.RW_nothingtwice_k70_shouts_on_the_wire
set_option Elab.async false
set_option linter.all false
set_option maxRecDepth 100000
/-! NT: tree values over the hand layer. Values D (trees), places P, a store of numbered objects MO; what they stand for in the abstract heap. -/
namespace NT
open PySem PySem.Spec PyProof.Rows L2

inductive D where
  | non | bl (b : Bool) | int (i : Int) | str (s : Str)
  | tup (ds : List D) | lst (ds : List D) | kls (ds : List D) | ref (n : Nat)
/-- a place of a list that one name or one field holds -/
inductive Pl where
  | slot (i : Nat) | fld (n : Nat) (f : Str)
/-- what a slot or a field holds, or an expression gives: a value; a list that stands there alone; such a list of a place, told by the place -/
inductive P where
  | val (d : D) | own (a : Addr) (ds : List D) | bor (a : Addr) (pl : Pl)
/-- an object of the store -/
inductive MO where
  | lst (ds : List D) | dic (kvs : List (Key × D)) | dit (kvs : List (List Key × D)) | lkd (kvs : List (Key × D)) | ins (C : Addr) (fs : List (Str × P))
/-- an exception: its class, its fields -/
structure EV where
  cls : Addr
  fs : List (Str × D)

section
variable (K : PySem.W.Frag)
/-- a list that is never written, the module's own among them -/
def SqF (H : Hp) (a : Addr) (xs : List V) : Prop :=
  (∃ o, H a = some (.frz o (.lst xs))) ∨ ∃ (o : Obj) (its : Array Value) (n : Nat), K.lookup a = some o ∧ o.cls = .type "list" ∧ o.dict = none ∧ o.data = .seq its n ∧ its.size ≤ sizeLine ∧ Vals xs its.toList
theorem SqF.seq {K : PySem.W.Frag} {H : Hp} {a : Addr} {xs : List V} (h : SqF K H a xs) : SqL K H a xs := by
  rcases h with ⟨o, h⟩ | h
  · exact .inl (.inr ⟨o, h⟩)
  · exact .inr h
/-- a tuple -/
def SqU (H : Hp) (a : Addr) (xs : List V) : Prop :=
  H a = some (.tup xs) ∨ ∃ (o : Obj) (its : Array Value) (n : Nat), K.lookup a = some o ∧ o.cls = .type "tuple" ∧ o.data = .seq its n ∧ its.size ≤ sizeLine ∧ Vals xs its.toList
theorem SqU.seq {K : PySem.W.Frag} {H : Hp} {a : Addr} {xs : List V} (h : SqU K H a xs) : SqT K H a xs := by
  rcases h with h | h
  · exact .inl (.inl h)
  · exact .inr h
mutual
def Rep (ρ : List Addr) (H : Hp) : D → V → Prop
  | .non, v => v = .non
  | .bl b, v => v = .bl b
  | .int i, v => v = .int i
  | .str s, v => v = .str s
  | .tup ds, v => ∃ a xs, v = .ref a ∧ SqU K H a xs ∧ Reps ρ H ds xs
  | .lst ds, v => ∃ a xs o, v = .ref a ∧ H a = some (.frz o (.lst xs)) ∧ Reps ρ H ds xs
  | .kls ds, v => ∃ a xs, v = .ref a ∧ SqF K H a xs ∧ Reps ρ H ds xs
  | .ref n, v => ∃ a, v = .ref a ∧ ρ[n]? = some a
def Reps (ρ : List Addr) (H : Hp) : List D → List V → Prop
  | [], vs => vs = []
  | d :: ds, vs => ∃ v r, vs = v :: r ∧ Rep ρ H d v ∧ Reps ρ H ds r
end
def PR (ρ : List Addr) (H : Hp) : P → V → Prop
  | .val d, v => Rep K ρ H d v
  | .own a ds, v => v = .ref a ∧ ∃ xs, H a = some (.lst xs) ∧ Reps K ρ H ds xs
  | .bor a _, v => v = .ref a
def FsR (ρ : List Addr) (H : Hp) : List (Str × P) → List (Str × V) → Prop
  | [], vs => vs = []
  | (f, p) :: r, vs => ∃ v t, vs = (f, v) :: t ∧ PR K ρ H p v ∧ FsR ρ H r t
def FdR (ρ : List Addr) (H : Hp) : List (Str × D) → List (Str × V) → Prop
  | [], vs => vs = []
  | (f, d) :: r, vs => ∃ v t, vs = (f, v) :: t ∧ Rep K ρ H d v ∧ FdR ρ H r t
def KvR {κ : Type} (ρ : List Addr) (H : Hp) : List (κ × D) → List (κ × V) → Prop
  | [], vs => vs = []
  | (k, d) :: r, vs => ∃ v t, vs = (k, v) :: t ∧ Rep K ρ H d v ∧ KvR ρ H r t
def ObR (ρ : List Addr) (H : Hp) : MO → Addr → Prop
  | .lst ds, a => ∃ xs, H a = some (.lst xs) ∧ Reps K ρ H ds xs
  | .dic kvs, a => ∃ ks, H a = some (.dK ks) ∧ KvR K ρ H kvs ks
  | .dit kvs, a => ∃ ks, H a = some (.dT ks) ∧ KvR K ρ H kvs ks
  | .lkd kvs, a => ∃ o ks, H a = some (.frz o (.dK ks)) ∧ KvR K ρ H kvs ks
  | .ins C fs, a => ∃ dx vs, H a = some (.ins C dx vs) ∧ FsR K ρ H fs vs
/-- the store stands in the heap -/
structure SM (ρ : List Addr) (μ : List MO) (H : Hp) : Prop where
  len : ρ.length = μ.length
  obj : ∀ (n : Nat) (o : MO), μ[n]? = some o → ∃ a, ρ[n]? = some a ∧ ObR K ρ H o a
/-- the slots stand in the frame -/
structure SS (ρ : List Addr) (H : Hp) (δ : List (Option P)) (σ : L2.St) : Prop where
  len : δ.length = σ.length
  at_ : ∀ (i : Nat) (p : P), δ[i]? = some (some p) → ∃ v, σ[i]? = some (some v) ∧ PR K ρ H p v
def XR (ρ : List Addr) (H : Hp) (x : EV) (cls : Value) (d : Option Addr) : Prop :=
  cls = .ref x.cls ∧ (x.fs = [] ∨ ∃ dd vs, d = some dd ∧ H dd = some (.xd vs) ∧ FdR K ρ H x.fs vs)
end
def footP : P → Addr → Nat
  | .own a _, x => if x = a then 1 else 0
  | _, _ => 0
def footF : List (Str × P) → Addr → Nat
  | [], _ => 0
  | (_, p) :: r, x => footP p x + footF r x
def footO : MO → Addr → Nat
  | .ins _ fs, x => footF fs x
  | _, _ => 0
def footS : List (Option P) → Addr → Nat
  | [], _ => 0
  | none :: r, x => footS r x
  | some p :: r, x => footP p x + footS r x
def footM : List Addr → List MO → Addr → Nat
  | a :: ρ, o :: μ, x => (if x = a then 1 else 0) + footO o x + footM ρ μ x
  | _, _, _ => 0
/-- what is never written: tuples, frozen lists, an exception's dict -/
def Fixed : HO → Prop
  | .tup _ => True
  | .frz _ (.lst _) => True
  | .xd _ => True
  | _ => False

/-! ### facts -/
section
variable {K : PySem.W.Frag} {ρ ρ' : List Addr} {H H' : Hp}
/-- the fixed stays -/
def Stay (H H' : Hp) : Prop := ∀ a o, H a = some o → Fixed o → H' a = some o
theorem Stay.refl (H : Hp) : Stay H H := fun _ _ h _ => h
theorem Stay.trans {H1 H2 H3 : Hp} (a : Stay H1 H2) (b : Stay H2 H3) : Stay H1 H3 := fun x o h f => b x o (a x o h f) f
theorem SqU.stay {a : Addr} {xs : List V} (k : Stay H H') (h : SqU K H a xs) : SqU K H' a xs := by
  rcases h with h | h
  · exact .inl (k _ _ h trivial)
  · exact .inr h
theorem SqF.stay {a : Addr} {xs : List V} (k : Stay H H') (h : SqF K H a xs) : SqF K H' a xs := by
  rcases h with ⟨o, h⟩ | h
  · exact .inl ⟨o, k _ _ h trivial⟩
  · exact .inr h
/-- more names -/
def Ext (ρ ρ' : List Addr) : Prop := ∀ (n : Nat) (a : Addr), ρ[n]? = some a → ρ'[n]? = some a
theorem Ext.refl (ρ : List Addr) : Ext ρ ρ := fun _ _ h => h
theorem Ext.trans {a b c : List Addr} (x : Ext a b) (y : Ext b c) : Ext a c := fun n z h => y n z (x n z h)
theorem Ext.app (ρ e : List Addr) : Ext ρ (ρ ++ e) := fun n a h => by
  rw [List.getElem?_append_left (List.getElem?_eq_some_iff.mp h).1]
  exact h
mutual
theorem Rep.stay (k : Stay H H') (e : Ext ρ ρ') : ∀ (d : D) (v : V), Rep K ρ H d v → Rep K ρ' H' d v
  | .non, _, h => h
  | .bl _, _, h => h
  | .int _, _, h => h
  | .str _, _, h => h
  | .tup ds, v, h => by
    simp only [Rep] at h ⊢
    obtain ⟨a, xs, e1, e2, e3⟩ := h
    exact ⟨a, xs, e1, e2.stay k, Reps.stay k e ds xs e3⟩
  | .lst ds, v, h => by
    simp only [Rep] at h ⊢
    obtain ⟨a, xs, o, e1, e2, e3⟩ := h
    exact ⟨a, xs, o, e1, k _ _ e2 trivial, Reps.stay k e ds xs e3⟩
  | .kls ds, v, h => by
    simp only [Rep] at h ⊢
    obtain ⟨a, xs, e1, e2, e3⟩ := h
    exact ⟨a, xs, e1, e2.stay k, Reps.stay k e ds xs e3⟩
  | .ref n, v, h => by
    simp only [Rep] at h ⊢
    obtain ⟨a, e1, e2⟩ := h
    exact ⟨a, e1, e n a e2⟩
theorem Reps.stay (k : Stay H H') (e : Ext ρ ρ') : ∀ (ds : List D) (vs : List V), Reps K ρ H ds vs → Reps K ρ' H' ds vs
  | [], _, h => h
  | d :: ds, vs, h => by
    simp only [Reps] at h ⊢
    obtain ⟨v, r, e1, e2, e3⟩ := h
    exact ⟨v, r, e1, Rep.stay k e d v e2, Reps.stay k e ds r e3⟩
end
theorem FdR.stay (k : Stay H H') (e : Ext ρ ρ') : ∀ (fs : List (Str × D)) (vs : List (Str × V)), FdR K ρ H fs vs → FdR K ρ' H' fs vs
  | [], _, h => h
  | (f, d) :: fs, vs, h => by
    obtain ⟨v, t, e1, e2, e3⟩ := h
    exact ⟨v, t, e1, e2.stay k e, FdR.stay k e fs t e3⟩
theorem KvR.stay {κ : Type} (k : Stay H H') (e : Ext ρ ρ') : ∀ (fs : List (κ × D)) (vs : List (κ × V)), KvR K ρ H fs vs → KvR K ρ' H' fs vs
  | [], _, h => h
  | (f, d) :: fs, vs, h => by
    obtain ⟨v, t, e1, e2, e3⟩ := h
    exact ⟨v, t, e1, e2.stay k e, KvR.stay k e fs t e3⟩
theorem XR.stay (k : Stay H H') (e : Ext ρ ρ') {x : EV} {cls : Value} {d : Option Addr} (h : XR K ρ H x cls d) : XR K ρ' H' x cls d := by
  obtain ⟨h1, h2⟩ := h
  refine ⟨h1, ?_⟩
  rcases h2 with h2 | ⟨dd, vs, e1, e2, e3⟩
  · exact .inl h2
  · exact .inr ⟨dd, vs, e1, k _ _ e2 trivial, e3.stay k e⟩
/-- a place's content stays where its list, if it holds one alone, stays -/
theorem PR.stay (k : Stay H H') (e : Ext ρ ρ') {p : P} {v : V} (ko : ∀ a o, footP p a = 1 → H a = some o → H' a = some o) (h : PR K ρ H p v) : PR K ρ' H' p v := by
  cases p with
  | val d => exact Rep.stay k e d v h
  | own a ds =>
    obtain ⟨e1, xs, e2, e3⟩ := h
    exact ⟨e1, xs, ko a _ (by simp [footP]) e2, e3.stay k e⟩
  | bor a pl => exact h
theorem FsR.stay (k : Stay H H') (e : Ext ρ ρ') : ∀ (fs : List (Str × P)) (vs : List (Str × V)), (∀ a o, 1 ≤ footF fs a → H a = some o → H' a = some o) → FsR K ρ H fs vs → FsR K ρ' H' fs vs
  | [], _, _, h => h
  | (f, p) :: fs, vs, ko, h => by
    obtain ⟨v, t, e1, e2, e3⟩ := h
    exact ⟨v, t, e1, e2.stay k e fun a o h1 h2 => ko a o (by simp only [footF]; omega) h2, FsR.stay k e fs t (fun a o h1 h2 => ko a o (by simp only [footF]; omega) h2) e3⟩
theorem ObR.stay (k : Stay H H') (e : Ext ρ ρ') {o : MO} {a : Addr} (ko : ∀ b u, (b = a ∨ 1 ≤ footO o b) → H b = some u → H' b = some u) (h : ObR K ρ H o a) : ObR K ρ' H' o a := by
  cases o with
  | lst ds =>
    obtain ⟨xs, e1, e2⟩ := h
    exact ⟨xs, ko _ _ (.inl rfl) e1, e2.stay k e⟩
  | dic kvs =>
    obtain ⟨xs, e1, e2⟩ := h
    exact ⟨xs, ko _ _ (.inl rfl) e1, e2.stay k e⟩
  | dit kvs =>
    obtain ⟨xs, e1, e2⟩ := h
    exact ⟨xs, ko _ _ (.inl rfl) e1, e2.stay k e⟩
  | lkd kvs =>
    obtain ⟨o, xs, e1, e2⟩ := h
    exact ⟨o, xs, ko _ _ (.inl rfl) e1, e2.stay k e⟩
  | ins C fs =>
    obtain ⟨dx, vs, e1, e2⟩ := h
    exact ⟨dx, vs, ko _ _ (.inl rfl) e1, e2.stay k e _ _ fun b u q => ko b u (.inr q)⟩
/-! ### how much of an address the state holds -/
theorem footM_at : ∀ {ρ : List Addr} {μ : List MO} {n : Nat} {a : Addr} {o : MO} (x : Addr), ρ[n]? = some a → μ[n]? = some o → (if x = a then 1 else 0) + footO o x ≤ footM ρ μ x
  | [], _, _, _, _, _, h, _ => by simp at h
  | _ :: _, [], _, _, _, _, _, h => by simp at h
  | a :: ρ, o :: μ, 0, _, _, x, h1, h2 => by
    simp at h1 h2
    subst h1 h2
    simp only [footM]
    omega
  | a :: ρ, o :: μ, n + 1, _, _, x, h1, h2 => by
    have := footM_at (n := n) x (by simpa using h1) (by simpa using h2)
    simp only [footM]
    omega
theorem footM_has : ∀ {ρ : List Addr} {μ : List MO} {x : Addr}, 1 ≤ footM ρ μ x → ∃ (n : Nat) (a : Addr) (o : MO), ρ[n]? = some a ∧ μ[n]? = some o ∧ (x = a ∨ 1 ≤ footO o x)
  | [], _, _, h => by simp [footM] at h
  | _ :: _, [], _, h => by simp [footM] at h
  | a :: ρ, o :: μ, x, h => by
    simp only [footM] at h
    by_cases h1 : x = a
    · exact ⟨0, a, o, rfl, rfl, .inl h1⟩
    · by_cases h2 : 1 ≤ footO o x
      · exact ⟨0, a, o, rfl, rfl, .inr h2⟩
      · rw [if_neg h1] at h
        obtain ⟨n, b, u, q1, q2, q3⟩ := footM_has (ρ := ρ) (μ := μ) (x := x) (by omega)
        exact ⟨n + 1, b, u, by simpa using q1, by simpa using q2, q3⟩
theorem footS_at : ∀ {δ : List (Option P)} {i : Nat} {p : P} (x : Addr), δ[i]? = some (some p) → footP p x ≤ footS δ x
  | [], _, _, _, h => by simp at h
  | none :: δ, 0, _, _, h => by simp at h
  | some q :: δ, 0, _, x, h => by
    simp at h
    subst h
    simp only [footS]
    omega
  | none :: δ, i + 1, _, x, h => by
    have := footS_at (δ := δ) (i := i) x (by simpa using h)
    simpa only [footS] using this
  | some q :: δ, i + 1, _, x, h => by
    have := footS_at (δ := δ) (i := i) x (by simpa using h)
    simp only [footS]
    omega
theorem footS_has : ∀ {δ : List (Option P)} {x : Addr}, 1 ≤ footS δ x → ∃ (i : Nat) (p : P), δ[i]? = some (some p) ∧ 1 ≤ footP p x
  | [], _, h => by simp [footS] at h
  | none :: δ, x, h => by
    obtain ⟨i, p, q1, q2⟩ := footS_has (δ := δ) (x := x) (by simpa only [footS] using h)
    exact ⟨i + 1, p, by simpa using q1, q2⟩
  | some q :: δ, x, h => by
    simp only [footS] at h
    by_cases h1 : 1 ≤ footP q x
    · exact ⟨0, q, rfl, h1⟩
    · obtain ⟨i, p, q1, q2⟩ := footS_has (δ := δ) (x := x) (by omega)
      exact ⟨i + 1, p, by simpa using q1, q2⟩
theorem footP_le (p : P) (x : Addr) : footP p x ≤ 1 := by
  cases p with
  | own a ds =>
    simp only [footP]
    split <;> omega
  | _ => exact Nat.zero_le _
theorem footF_has : ∀ {fs : List (Str × P)} {x : Addr}, 1 ≤ footF fs x → ∃ f p, (f, p) ∈ fs ∧ 1 ≤ footP p x
  | [], _, h => by simp [footF] at h
  | (f, p) :: fs, x, h => by
    simp only [footF] at h
    by_cases h1 : 1 ≤ footP p x
    · exact ⟨f, p, List.mem_cons_self, h1⟩
    · obtain ⟨g, q, q1, q2⟩ := footF_has (fs := fs) (x := x) (by omega)
      exact ⟨g, q, List.mem_cons_of_mem _ q1, q2⟩
/-- what a place holds alone is there, and is a list -/
theorem PR.foot {p : P} {v : V} {x : Addr} (h : PR K ρ H p v) (q : 1 ≤ footP p x) : ∃ xs, H x = some (.lst xs) := by
  cases p with
  | own a ds =>
    simp only [footP] at q
    have e : x = a := by
      by_cases e : x = a
      · exact e
      · rw [if_neg e] at q
        omega
    obtain ⟨_, xs, e2, _⟩ := h
    exact ⟨xs, by rw [e]; exact e2⟩
  | val d => simp [footP] at q
  | bor a pl => simp [footP] at q
theorem FsR.foot : ∀ {fs : List (Str × P)} {vs : List (Str × V)} {x : Addr}, FsR K ρ H fs vs → 1 ≤ footF fs x → ∃ xs, H x = some (.lst xs)
  | [], _, _, _, q => by simp [footF] at q
  | (f, p) :: fs, vs, x, h, q => by
    obtain ⟨v, t, e1, e2, e3⟩ := h
    simp only [footF] at q
    by_cases h1 : 1 ≤ footP p x
    · exact e2.foot h1
    · exact FsR.foot (fs := fs) e3 (by omega)
theorem SM.foot {μ : List MO} {x : Addr} (h : SM K ρ μ H) (q : 1 ≤ footM ρ μ x) : ∃ o, H x = some o ∧ ¬ Fixed o := by
  obtain ⟨n, a, o, h1, h2, h3⟩ := footM_has q
  obtain ⟨b, h4, h5⟩ := h.obj n o h2
  rw [h1] at h4
  cases h4
  rcases h3 with h3 | h3
  · subst h3
    cases o with
    | lst ds => obtain ⟨xs, e1, e2⟩ := h5; exact ⟨_, e1, fun z => z⟩
    | dic ds => obtain ⟨xs, e1, e2⟩ := h5; exact ⟨_, e1, fun z => z⟩
    | dit ds => obtain ⟨xs, e1, e2⟩ := h5; exact ⟨_, e1, fun z => z⟩
    | lkd ds => obtain ⟨_, xs, e1, e2⟩ := h5; exact ⟨_, e1, fun z => z⟩
    | ins C fs => obtain ⟨dx, vs, e1, e2⟩ := h5; exact ⟨_, e1, fun z => z⟩
  · cases o with
    | ins C fs =>
      obtain ⟨dx, vs, e1, e2⟩ := h5
      obtain ⟨xs, e⟩ := e2.foot h3
      exact ⟨_, e, fun z => z⟩
    | lst ds => simp [footO] at h3
    | dic ds => simp [footO] at h3
    | dit ds => simp [footO] at h3
    | lkd ds => simp [footO] at h3
theorem SS.foot {δ : List (Option P)} {σ : L2.St} {x : Addr} (h : SS K ρ H δ σ) (q : 1 ≤ footS δ x) : ∃ xs, H x = some (.lst xs) := by
  obtain ⟨i, p, h1, h2⟩ := footS_has q
  obtain ⟨v, _, h4⟩ := h.at_ i p h1
  exact h4.foot h2
/-- the store stays where all that it holds stays -/
theorem SM.stay {μ : List MO} (k : Stay H H') (ko : ∀ a o, 1 ≤ footM ρ μ a → H a = some o → H' a = some o) (h : SM K ρ μ H) : SM K ρ μ H' := by
  refine ⟨h.len, fun n o e => ?_⟩
  obtain ⟨a, e1, e2⟩ := h.obj n o e
  refine ⟨a, e1, e2.stay k (Ext.refl ρ) fun b u q z => ko b u ?_ z⟩
  have := footM_at b e1 e
  rcases q with q | q
  · rw [if_pos q] at this
    omega
  · omega
theorem SS.stay {δ : List (Option P)} {σ : L2.St} (k : Stay H H') (e : Ext ρ ρ') (ko : ∀ a o, 1 ≤ footS δ a → H a = some o → H' a = some o) (h : SS K ρ H δ σ) : SS K ρ' H' δ σ := by
  refine ⟨h.len, fun i p q => ?_⟩
  obtain ⟨v, e1, e2⟩ := h.at_ i p q
  refine ⟨v, e1, e2.stay k e fun a o z => ko a o ?_⟩
  have := footS_at a q
  omega
end
/-! ### the whole state, and how it goes on -/
structure Hold (K : PySem.W.Frag) (ρ : List Addr) (μ : List MO) (δ : List (Option P)) (σ : L2.St) (H : Hp) : Prop where
  sm : SM K ρ μ H
  ss : SS K ρ H δ σ
  one : ∀ x, footS δ x + footM ρ μ x ≤ 1
/-- from (ρ, H), where B was held, to (ρ', μ', H'), with F held besides the store -/
structure Evo (K : PySem.W.Frag) (B : Addr → Nat) (ρ : List Addr) (H : Hp) (ρ' : List Addr) (μ' : List MO) (H' : Hp) (F : Addr → Nat) : Prop where
  sm : SM K ρ' μ' H'
  ext : Ext ρ ρ'
  keep : ∀ a o, H a = some o → B a = 0 → H' a = some o
  grow : ∀ x, 1 ≤ F x + footM ρ' μ' x → 1 ≤ B x ∨ H x = none
  one : ∀ x, F x + footM ρ' μ' x ≤ 1
abbrev F0 : Addr → Nat := fun _ => 0
/-- the store's and the slots' -/
abbrev footB (ρ : List Addr) (μ : List MO) (δ : List (Option P)) : Addr → Nat := fun x => footS δ x + footM ρ μ x
section
variable {K : PySem.W.Frag} {ρ ρ1 ρ2 : List Addr} {μ μ1 μ2 : List MO} {δ δ1 : List (Option P)} {σ : L2.St} {H H1 H2 : Hp} {B B1 F G : Addr → Nat}
theorem Hold.foot (h : Hold K ρ μ δ σ H) {x : Addr} (q : 1 ≤ footB ρ μ δ x) : ∃ o, H x = some o ∧ ¬ Fixed o := by
  by_cases z : 1 ≤ footM ρ μ x
  · exact h.sm.foot z
  · have q' : 1 ≤ footS δ x + footM ρ μ x := q
    obtain ⟨xs, e⟩ := h.ss.foot (x := x) (by omega)
    exact ⟨_, e, fun z => z⟩
theorem Evo.stay (h : ∀ x, 1 ≤ B x → ∃ o, H x = some o ∧ ¬ Fixed o) (e : Evo K B ρ H ρ1 μ1 H1 F) : Stay H H1 := fun a o q f => e.keep a o q (by
  by_cases z : 1 ≤ B a
  · obtain ⟨u, h1, h2⟩ := h a z
    rw [q] at h1
    cases h1
    exact absurd f h2
  · omega)
theorem Evo.stayM (h : SM K ρ μ H) (e : Evo K (footM ρ μ) ρ H ρ1 μ1 H1 F) : Stay H H1 := e.stay fun _ z => h.foot z
theorem Evo.refl (h : SM K ρ μ H) (o : ∀ x, footM ρ μ x ≤ 1) : Evo K (footM ρ μ) ρ H ρ μ H F0 :=
  ⟨h, Ext.refl ρ, fun _ _ q _ => q, fun x q => .inl (by simpa using q), fun x => by simpa using o x⟩
theorem Hold.le (h : Hold K ρ μ δ σ H) (x : Addr) : footM ρ μ x ≤ 1 := by have := h.one x; omega
theorem Hold.refl (h : Hold K ρ μ δ σ H) : Evo K (footM ρ μ) ρ H ρ μ H F0 := Evo.refl h.sm h.le
theorem Hold.reflS (h : Hold K ρ μ δ σ H) : Evo K (footB ρ μ δ) ρ H ρ μ H (footS δ) :=
  ⟨h.sm, Ext.refl ρ, fun _ _ q _ => q, fun x q => .inl q, h.one⟩
theorem Evo.trans (a : Evo K B ρ H ρ1 μ1 H1 F) (b : Evo K B1 ρ1 H1 ρ2 μ2 H2 G) (l : ∀ x, 1 ≤ B1 x → 1 ≤ F x + footM ρ1 μ1 x) : Evo K B ρ H ρ2 μ2 H2 G := by
  refine ⟨b.sm, a.ext.trans b.ext, fun x o q z => b.keep x o (a.keep x o q z) ?_, fun x q => ?_, b.one⟩
  · by_cases w : 1 ≤ B1 x
    · rcases a.grow x (l x w) with r | r
      · omega
      · rw [q] at r
        cases r
    · omega
  · rcases b.grow x q with r | r
    · exact a.grow x (l x r)
    · by_cases w : 1 ≤ B x
      · exact .inl w
      · refine .inr ?_
        cases e : H x with
        | none => rfl
        | some o => rw [a.keep x o e (by omega)] at r; cases r
theorem Evo.transM (a : Evo K B ρ H ρ1 μ1 H1 F) (b : Evo K (footM ρ1 μ1) ρ1 H1 ρ2 μ2 H2 G) : Evo K B ρ H ρ2 μ2 H2 G := a.trans b fun x q => by omega
theorem Evo.transS (a : Evo K B ρ H ρ1 μ1 H1 (footS δ)) (b : Evo K (footB ρ1 μ1 δ) ρ1 H1 ρ2 μ2 H2 G) : Evo K B ρ H ρ2 μ2 H2 G := a.trans b fun x q => q
/-- what a result holds is not the frame's -/
theorem Hold.apart (h : Hold K ρ μ δ σ H) (e : Evo K (footM ρ μ) ρ H ρ1 μ1 H1 F) (x : Addr) : F x + footS δ x + footM ρ1 μ1 x ≤ 1 := by
  by_cases q : 1 ≤ footS δ x
  · have h1 := h.one x
    by_cases w : 1 ≤ F x + footM ρ1 μ1 x
    · rcases e.grow x w with r | r
      · omega
      · obtain ⟨xs, t⟩ := h.ss.foot q
        rw [t] at r
        cases r
    · omega
  · have := e.one x
    omega
/-- the frame's slots through it -/
theorem Hold.after (h : Hold K ρ μ δ σ H) (e : Evo K (footM ρ μ) ρ H ρ1 μ1 H1 F) : Hold K ρ1 μ1 δ σ H1 := by
  have z : ∀ x, 1 ≤ footS δ x → footM ρ μ x = 0 := fun x q => by have := h.one x; omega
  refine ⟨e.sm, h.ss.stay (e.stayM h.sm) e.ext fun a o q r => e.keep a o r (z a q), fun x => ?_⟩
  have := h.apart e x
  omega
/-- an expression's way as a statement's -/
theorem Hold.evoB (h : Hold K ρ μ δ σ H) (e : Evo K (footM ρ μ) ρ H ρ1 μ1 H1 F) : Evo K (footB ρ μ δ) ρ H ρ1 μ1 H1 (fun x => F x + footS δ x) := by
  refine ⟨e.sm, e.ext, fun a o q z => e.keep a o q ?_, fun x q => ?_, h.apart e⟩
  · have z' : footS δ a + footM ρ μ a = 0 := z
    omega
  · by_cases w : 1 ≤ footS δ x
    · exact .inl (show 1 ≤ footS δ x + footM ρ μ x by omega)
    · rcases e.grow x (by omega) with r | r
      · exact .inl (show 1 ≤ footS δ x + footM ρ μ x by omega)
      · exact .inr r
theorem Evo.less (a : Evo K B ρ H ρ1 μ1 H1 F) (l : ∀ x, G x ≤ F x) : Evo K B ρ H ρ1 μ1 H1 G :=
  ⟨a.sm, a.ext, a.keep, fun x q => a.grow x (by have := l x; omega), fun x => by have := a.one x; have := l x; omega⟩
theorem Evo.drop (a : Evo K B ρ H ρ1 μ1 H1 F) : Evo K B ρ H ρ1 μ1 H1 F0 := a.less fun x => Nat.zero_le _
/-- a result that waits, through a further step -/
theorem Evo.wait {p : P} {v : V} (a : Evo K B ρ H ρ1 μ1 H1 (footP p)) (r : PR K ρ1 H1 p v) (b : Evo K (footM ρ1 μ1) ρ1 H1 ρ2 μ2 H2 G) : PR K ρ2 H2 p v ∧ ∀ x, footP p x + G x + footM ρ2 μ2 x ≤ 1 := by
  have z : ∀ x, 1 ≤ footP p x → footM ρ1 μ1 x = 0 := fun x q => by have := a.one x; omega
  refine ⟨r.stay (b.stayM a.sm) b.ext fun x o q w => b.keep x o w (z x (by omega)), fun x => ?_⟩
  by_cases q : 1 ≤ footP p x
  · have h1 := a.one x
    by_cases w : 1 ≤ G x + footM ρ2 μ2 x
    · rcases b.grow x w with t | t
      · omega
      · obtain ⟨xs, t'⟩ := r.foot q
        rw [t'] at t
        cases t
    · omega
  · have := b.one x
    omega
/-- a new thing is laid that nothing of the state speaks of yet -/
theorem stay_new {a : Addr} {o : HO} (n : H a = none) : ∀ b u, H b = some u → upd H a o b = some u := fun b u q => by
  rw [upd_ne (ne_of_none q n)]
  exact q
theorem SM.new {a : Addr} {o : HO} (h : SM K ρ μ H) (n : H a = none) : SM K ρ μ (upd H a o) := h.stay (fun b u q _ => stay_new n b u q) fun b u _ q => stay_new n b u q
theorem Evo.new {a : Addr} {o : HO} (h : SM K ρ μ H) (o1 : ∀ x, footM ρ μ x ≤ 1) (n : H a = none) : Evo K (footM ρ μ) ρ H ρ μ (upd H a o) (fun x => if x = a then 1 else 0) := by
  refine ⟨h.new n, Ext.refl ρ, fun b u q _ => stay_new n b u q, fun x q => ?_, fun x => ?_⟩
  · by_cases e : x = a
    · exact .inr (by rw [e]; exact n)
    · rw [if_neg e] at q
      exact .inl (by omega)
  · by_cases e : x = a
    · rw [if_pos e]
      by_cases z : 1 ≤ footM ρ μ x
      · obtain ⟨u, h1, _⟩ := h.foot z
        rw [e, n] at h1
        cases h1
      · omega
    · rw [if_neg e]
      have := o1 x
      omega
theorem footM_app : ∀ (ρ : List Addr) (μ : List MO) (a : Addr) (o : MO) (x : Addr), ρ.length = μ.length → footM (ρ ++ [a]) (μ ++ [o]) x = footM ρ μ x + ((if x = a then 1 else 0) + footO o x)
  | [], [], a, o, x, _ => by simp [footM]
  | b :: ρ, u :: μ, a, o, x, h => by
    have ih := footM_app ρ μ a o x (by simpa using h)
    simp only [List.cons_append, footM, ih]
    omega
  | [], _ :: _, _, _, _, h => by simp at h
  | _ :: _, [], _, _, _, h => by simp at h
/-- a new object of the store -/
theorem SM.push {a : Addr} {o : MO} (h : SM K ρ μ H) (r : ObR K (ρ ++ [a]) H o a) : SM K (ρ ++ [a]) (μ ++ [o]) H := by
  refine ⟨by simp [h.len], fun n u e => ?_⟩
  by_cases q : n < μ.length
  · rw [List.getElem?_append_left q] at e
    obtain ⟨b, e1, e2⟩ := h.obj n u e
    exact ⟨b, Ext.app ρ [a] n b e1, e2.stay (Stay.refl H) (Ext.app ρ [a]) fun _ _ _ z => z⟩
  · rw [List.getElem?_append_right (by omega)] at e
    have hn : n = μ.length := by
      cases z : n - μ.length with
      | zero => omega
      | succ k => rw [z] at e; simp at e
    subst hn
    simp at e
    subst e
    exact ⟨a, by rw [← h.len]; simp, r⟩
theorem Evo.push {a : Addr} {o : MO} {u : HO} (h : SM K ρ μ H) (o1 : ∀ x, footM ρ μ x ≤ 1) (n : H a = none) (z : ∀ x, footO o x = 0) (r : ObR K (ρ ++ [a]) (upd H a u) o a) : Evo K (footM ρ μ) ρ H (ρ ++ [a]) (μ ++ [o]) (upd H a u) F0 := by
  have e := Evo.new (o := u) h o1 n
  refine ⟨e.sm.push r, Ext.app ρ [a], e.keep, fun x q => ?_, fun x => ?_⟩
  · rw [footM_app _ _ _ _ _ h.len, z x] at q
    exact e.grow x (by have : F0 x = 0 := rfl; omega)
  · rw [footM_app _ _ _ _ _ h.len, z x]
    have := e.one x
    have : F0 x = 0 := rfl
    omega
theorem footM_set : ∀ (ρ : List Addr) (μ : List MO) (n : Nat) (o o' : MO) (x : Addr), ρ.length = μ.length → μ[n]? = some o → footM ρ (μ.set n o') x + footO o x = footM ρ μ x + footO o' x
  | [], [], _, _, _, _, _, e => by simp at e
  | [], _ :: _, _, _, _, _, h, _ => by simp at h
  | a :: ρ, [], _, _, _, _, h, _ => by simp at h
  | a :: ρ, u :: μ, 0, o, o', x, h, e => by
    simp at e
    subst e
    simp only [List.set_cons_zero, footM]
    omega
  | a :: ρ, u :: μ, n + 1, o, o', x, h, e => by
    have ih := footM_set ρ μ n o o' x (by simpa using h) (by simpa using e)
    simp only [List.set_cons_succ, footM]
    omega
theorem footM_two : ∀ {ρ : List Addr} {μ : List MO} {n m : Nat} {a b : Addr} {o u : MO} (x : Addr), n ≠ m → ρ[n]? = some a → μ[n]? = some o → ρ[m]? = some b → μ[m]? = some u →
    ((if x = a then 1 else 0) + footO o x) + ((if x = b then 1 else 0) + footO u x) ≤ footM ρ μ x
  | [], _, _, _, _, _, _, _, _, _, h, _, _, _ => by simp at h
  | _ :: _, [], _, _, _, _, _, _, _, _, _, h, _, _ => by simp at h
  | c :: ρ, w :: μ, 0, 0, _, _, _, _, _, hn, _, _, _, _ => absurd rfl hn
  | c :: ρ, w :: μ, 0, m + 1, _, _, _, _, x, hn, h1, h2, h3, h4 => by
    simp at h1 h2
    subst h1 h2
    have := footM_at (n := m) x (by simpa using h3) (by simpa using h4)
    simp only [footM]
    omega
  | c :: ρ, w :: μ, n + 1, 0, _, _, _, _, x, hn, h1, h2, h3, h4 => by
    simp at h3 h4
    subst h3 h4
    have := footM_at (n := n) x (by simpa using h1) (by simpa using h2)
    simp only [footM]
    omega
  | c :: ρ, w :: μ, n + 1, m + 1, _, _, _, _, x, hn, h1, h2, h3, h4 => by
    have := footM_two (n := n) (m := m) x (fun e => hn (by rw [e])) (by simpa using h1) (by simpa using h2) (by simpa using h3) (by simpa using h4)
    simp only [footM]
    omega
/-- an object of the store is changed -/
theorem Evo.set {n : Nat} {a : Addr} {o o' : MO} {u : HO} {Fi Fo : Addr → Nat} (h : SM K ρ μ H) (o1 : ∀ x, Fi x + footM ρ μ x ≤ 1) (ea : ρ[n]? = some a) (eo : μ[n]? = some o)
    (fo : ∀ x, footO o' x + Fo x ≤ footO o x + Fi x) (r : Stay H (upd H a u) → (∀ b w, 1 ≤ footO o b + Fi b → H b = some w → upd H a u b = some w) → ObR K ρ (upd H a u) o' a) :
    Evo K (fun x => Fi x + footM ρ μ x) ρ H ρ (μ.set n o') (upd H a u) Fo := by
  have at1 : 1 ≤ footM ρ μ a := by
    have := footM_at a ea eo
    rw [if_pos rfl] at this
    omega
  have ne : ∀ b, footM ρ μ b = 0 → b ≠ a := fun b q z => by rw [z] at q; omega
  have st : Stay H (upd H a u) := fun b w q f => by
    rw [upd_ne]
    · exact q
    · intro z
      obtain ⟨w', h1, h2⟩ := h.foot at1
      rw [z, h1] at q
      cases q
      exact h2 f
  have ko : ∀ b w, 1 ≤ footO o b + Fi b → H b = some w → upd H a u b = some w := fun b w q e => by
    rw [upd_ne]
    · exact e
    · intro z
      subst z
      have h1 := footM_at b ea eo
      rw [if_pos rfl] at h1
      have h2 := o1 b
      omega
  have fs := fun x => footM_set ρ μ n o o' x h.len eo
  refine ⟨⟨by rw [List.length_set]; exact h.len, fun m w e => ?_⟩, Ext.refl ρ, fun b w q z => ?_, fun x q => ?_, fun x => ?_⟩
  · by_cases hm : m = n
    · subst hm
      have hl : m < μ.length := (List.getElem?_eq_some_iff.mp eo).1
      rw [List.getElem?_set_self hl] at e
      cases e
      exact ⟨a, ea, r st ko⟩
    · rw [List.getElem?_set_ne (Ne.symm hm)] at e
      obtain ⟨b, e1, e2⟩ := h.obj m w e
      refine ⟨b, e1, e2.stay st (Ext.refl ρ) fun c v q z => ?_⟩
      rw [upd_ne]
      · exact z
      · intro t
        subst t
        have h1 := footM_two c (Ne.symm hm) ea eo e1 e
        have h2 := o1 c
        rw [if_pos rfl] at h1
        rcases q with q | q
        · rw [if_pos q] at h1
          omega
        · omega
  · have z' : Fi b + footM ρ μ b = 0 := z
    rw [upd_ne (ne b (by omega))]
    exact q
  · have h1 := fs x
    have h2 := fo x
    refine .inl ?_
    show 1 ≤ Fi x + footM ρ μ x
    omega
  · have h1 := fs x
    have h2 := fo x
    have h3 := o1 x
    omega
end
end NT

/-! NT: what an expression, a test, a row of arguments, a statement does to trees; how that stands over the hand layer; defs. -/
namespace NT
open PySem PySem.Spec PyProof.Rows L2

abbrev Sl := List (Option P)
abbrev Mu := List MO
abbrev CX := EV → Mu → Prop
abbrev FE := Sl → Mu → (P → Mu → Prop) → CX → Prop
abbrev FT := Sl → Mu → (Bool → Mu → Prop) → CX → Prop
abbrev FA := Sl → Mu → (List D → Mu → Prop) → CX → Prop
/-- what is wanted behind a statement -/
structure FD where
  nx : Sl → Mu → Prop
  rt : P → Mu → Prop
  bk : Sl → Mu → Prop
  ct : Sl → Mu → Prop
  ex : EV → Sl → Mu → Prop
abbrev FS := FD → Sl → Mu → Prop
/-- a def: its arguments' trees, the store -/
abbrev FN := List D → Mu → (P → Mu → Prop) → CX → Prop

section
variable (K : PySem.W.Frag) (W : WX)
/-- an exception's way out of an expression -/
def XOut (ρ : List Addr) (μ : Mu) (σ : L2.St) (H : Hp) (E : CX) : Prop := ∀ x μ', E x μ' → ∀ ρ' H' cls d, Evo K (footM ρ μ) ρ H ρ' μ' H' F0 → XR K ρ' H' x cls d → W cls d σ H'
def liftE (f : FE) : TE := fun σ H Q => ∃ ρ μ δ C E, Hold K ρ μ δ σ H ∧ f δ μ C E ∧ (∀ p μ', C p μ' → ∀ ρ' H' v, Evo K (footM ρ μ) ρ H ρ' μ' H' (footP p) → PR K ρ' H' p v → Q v H') ∧ XOut K W ρ μ σ H E
def liftT (f : FT) : TT := fun σ H Q => ∃ ρ μ δ C E, Hold K ρ μ δ σ H ∧ f δ μ C E ∧ (∀ b μ', C b μ' → ∀ ρ' H', Evo K (footM ρ μ) ρ H ρ' μ' H' F0 → Q b H') ∧ XOut K W ρ μ σ H E
def liftA (f : FA) : TA := fun σ H Q => ∃ ρ μ δ C E, Hold K ρ μ δ σ H ∧ f δ μ C E ∧ (∀ ds μ', C ds μ' → ∀ ρ' H' vs, Evo K (footM ρ μ) ρ H ρ' μ' H' F0 → Reps K ρ' H' ds vs → Q vs H') ∧ XOut K W ρ μ σ H E
def SOut (ρ : List Addr) (μ : Mu) (δ : Sl) (H : Hp) (C : Sl → Mu → Prop) (N : L2.St → Hp → Prop) : Prop := ∀ δ' μ', C δ' μ' → ∀ ρ' σ' H', Evo K (footB ρ μ δ) ρ H ρ' μ' H' (footS δ') → SS K ρ' H' δ' σ' → N σ' H'
structure FDOk (ρ : List Addr) (μ : Mu) (δ : Sl) (H : Hp) (D' : FD) (D : Ends) : Prop where
  nx : SOut K ρ μ δ H D'.nx D.nx
  bk : SOut K ρ μ δ H D'.bk D.bk
  ct : SOut K ρ μ δ H D'.ct D.ct
  rt : ∀ p μ', D'.rt p μ' → ∀ ρ' H' v, Evo K (footB ρ μ δ) ρ H ρ' μ' H' (footP p) → PR K ρ' H' p v → D.rt v H'
  ex : ∀ x δ' μ', D'.ex x δ' μ' → ∀ ρ' σ' H' cls d, Evo K (footB ρ μ δ) ρ H ρ' μ' H' (footS δ') → SS K ρ' H' δ' σ' → XR K ρ' H' x cls d → W cls d σ' H'
def liftS (f : FS) : TS := fun D σ H => ∃ ρ μ δ D', Hold K ρ μ δ σ H ∧ f D' δ μ ∧ FDOk K W ρ μ δ H D' D
end
/-- the judgements -/
def EF (X : Cx) (W : WX) (e : Expr) (f : FE) : Prop := PE X e (liftE X.K W f)
def TF (X : Cx) (W : WX) (e : Expr) (f : FT) : Prop := PT X e (liftT X.K W f)
def WF (X : Cx) (W : WX) (e : Expr) (f : FT) : Prop := PW X e (liftT X.K W f)
def AF (X : Cx) (W : WX) (es : List Expr) (f : FA) : Prop := PA X es (liftA X.K W f)
def SF (X : Cx) (W : WX) (s : Stmt) (f : FS) : Prop := PS X s (liftS X.K W f)
def BF (X : Cx) (W : WX) (s : List Stmt) (f : FS) : Prop := PSs X s (liftS X.K W f)

theorem pe_imp {X : Cx} {e : Expr} {t t' : TE} (h : PE X e t) (i : ∀ σ H Q, t' σ H Q → t σ H Q) : PE X e t' := ⟨fun pins s σ H Q I q => h.run pins s σ H Q I (i σ H Q q)⟩
theorem pt_imp {X : Cx} {e : Expr} {t t' : TT} (h : PT X e t) (i : ∀ σ H Q, t' σ H Q → t σ H Q) : PT X e t' := ⟨fun pins s σ H Q I q => h.run pins s σ H Q I (i σ H Q q)⟩
theorem pw_imp {X : Cx} {e : Expr} {t t' : TT} (h : PW X e t) (i : ∀ σ H Q, t' σ H Q → t σ H Q) : PW X e t' := ⟨fun wh pins s σ H Q I q => h.run wh pins s σ H Q I (i σ H Q q)⟩
theorem pa_imp {X : Cx} {e : List Expr} {t t' : TA} (h : PA X e t) (i : ∀ σ H Q, t' σ H Q → t σ H Q) : PA X e t' := ⟨fun pos pins s σ H Q I q => h.run pos pins s σ H Q I (i σ H Q q)⟩
theorem ps_imp {X : Cx} {e : Stmt} {t t' : TS} (h : PS X e t) (i : ∀ D σ H, t' D σ H → t D σ H) : PS X e t' := ⟨fun pins s σ H D I q => h.run pins s σ H D I (i D σ H q)⟩
theorem pss_imp {X : Cx} {e : List Stmt} {t t' : TS} (h : PSs X e t) (i : ∀ D σ H, t' D σ H → t D σ H) : PSs X e t' := ⟨fun pins s σ H D I q => h.run pins s σ H D I (i D σ H q)⟩

section
variable {K : PySem.W.Frag} {W : WX} {ρ ρ1 ρ2 : List Addr} {μ μ1 μ2 : Mu} {δ δ1 : Sl} {σ σ1 : L2.St} {H H1 H2 : Hp} {F : Addr → Nat} {E : CX}
theorem XOut.after (x : XOut K W ρ μ σ H E) (e : Evo K (footM ρ μ) ρ H ρ1 μ1 H1 F) : XOut K W ρ1 μ1 σ H1 E := fun y μ' h ρ' H' cls d e' r => x y μ' h ρ' H' cls d (e.transM e') r
theorem SOut.after {C : Sl → Mu → Prop} {N : L2.St → Hp → Prop} (x : SOut K ρ μ δ H C N) (e : Evo K (footB ρ μ δ) ρ H ρ1 μ1 H1 (footS δ1)) : SOut K ρ1 μ1 δ1 H1 C N := fun δ' μ' h ρ' σ' H' e' r => x δ' μ' h ρ' σ' H' (e.transS e') r
theorem FDOk.after {D' : FD} {D : Ends} (x : FDOk K W ρ μ δ H D' D) (e : Evo K (footB ρ μ δ) ρ H ρ1 μ1 H1 (footS δ1)) : FDOk K W ρ1 μ1 δ1 H1 D' D :=
  ⟨x.nx.after e, x.bk.after e, x.ct.after e, fun p μ' h ρ' H' v e' r => x.rt p μ' h ρ' H' v (e.transS e') r, fun y δ' μ' h ρ' σ' H' cls d e' s r => x.ex y δ' μ' h ρ' σ' H' cls d (e.transS e') s r⟩
/-- behind an expression -/
theorem FDOk.afterE {D' : FD} {D : Ends} (x : FDOk K W ρ μ δ H D' D) (h : Hold K ρ μ δ σ H) (e : Evo K (footM ρ μ) ρ H ρ1 μ1 H1 F) : FDOk K W ρ1 μ1 δ H1 D' D := x.after ((h.evoB e).less fun y => by omega)
/-- an exception out of an expression of a statement -/
theorem FDOk.xout {D' : FD} {D : Ends} (x : FDOk K W ρ μ δ H D' D) (h : Hold K ρ μ δ σ H) : XOut K W ρ μ σ H (fun y μ' => D'.ex y δ μ') := fun y μ' q ρ' H' cls d e r =>
  x.ex y δ μ' q ρ' σ H' cls d ((h.evoB e).less fun y => by omega) (h.after e).ss r
theorem Hold.mk' {B : Addr → Nat} (e : Evo K B ρ H ρ1 μ1 H1 (footS δ1)) (s : SS K ρ1 H1 δ1 σ1) : Hold K ρ1 μ1 δ1 σ1 H1 := ⟨e.sm, s, e.one⟩
end

/-! ### defs -/
/-- the promise that a def's denotation makes -/
def spOf (K : PySem.W.Frag) (g : FN) : Sp := fun vs H Q E => ∃ ρ μ ds C CE, SM K ρ μ H ∧ (∀ x, footM ρ μ x ≤ 1) ∧ Reps K ρ H ds vs ∧ g ds μ C CE ∧
  (∀ p μ', C p μ' → ∀ ρ' H' v, Evo K (footM ρ μ) ρ H ρ' μ' H' (footP p) → PR K ρ' H' p v → Q v H') ∧ (∀ x μ', CE x μ' → ∀ ρ' H' cls d, Evo K (footM ρ μ) ρ H ρ' μ' H' F0 → XR K ρ' H' x cls d → E cls d H')
/-- a def that stands at f keeps g, where no representation is under way -/
structure FnG (P : Program) (w : World) (K : PySem.W.Frag) (mg : Str → Option Value) (base : Heap) (k : Nat) (f : Addr) (g : FN) : Prop where
  kp : PySem.W.keepIn K (.ref f) = true
  run : ∀ (A : Around) (outer : List Env) (s : Shared) (H : Hp) (us : List Value) (vs : List V) (Q : VK) (E : XK), Room k A → A.guards = some [] → Env0 P w K mg base A outer s H → Vals vs us → spOf K g vs H Q E →
    codeAny (model P w) A (.call (.ref f) ⟨us, []⟩) (CR (L2.CX P w) outer P w H s Q E) s
theorem FnG.mono {P : Program} {w : World} {K : PySem.W.Frag} {mg : Str → Option Value} {base : Heap} {j k : Nat} {f : Addr} {g : FN} (F : FnG P w K mg base j f g) (h : j ≤ k) : FnG P w K mg base k f g :=
  ⟨F.kp, fun A outer s H us vs Q E hr => F.run A outer s H us vs Q E (hr.mono h)⟩
/-- a def's denotation by its body's: n parameters, m names -/
def fnDen (n m : Nat) (b : FS) : FN := fun ds μ C E => ds.length = n ∧
  b { nx := fun _ μ' => C (.val .non) μ', rt := fun p μ' => match p with | .bor _ (.slot _) => False | p => C p μ', bk := fun _ _ => False, ct := fun _ _ => False, ex := fun x _ μ' => E x μ' }
    (ds.map (fun d => some (P.val d)) ++ List.replicate (m - n) none) μ
theorem reps_len {K : PySem.W.Frag} {ρ : List Addr} {H : Hp} : ∀ {ds : List D} {vs : List V}, Reps K ρ H ds vs → ds.length = vs.length
  | [], _, h => by simp only [Reps] at h; subst h; rfl
  | d :: ds, _, h => by
    simp only [Reps] at h
    obtain ⟨v, r, rfl, _, h3⟩ := h
    simp [reps_len h3]
theorem reps_get {K : PySem.W.Frag} {ρ : List Addr} {H : Hp} : ∀ {ds : List D} {vs : List V} {i : Nat} {d : D}, Reps K ρ H ds vs → ds[i]? = some d → ∃ v, vs[i]? = some v ∧ Rep K ρ H d v
  | [], _, _, _, _, e => by simp at e
  | d :: ds, _, 0, _, h, e => by
    simp only [Reps] at h
    obtain ⟨v, r, rfl, h2, _⟩ := h
    simp at e
    subst e
    exact ⟨v, rfl, h2⟩
  | d :: ds, _, i + 1, _, h, e => by
    simp only [Reps] at h
    obtain ⟨v, r, rfl, _, h3⟩ := h
    obtain ⟨u, h4, h5⟩ := reps_get (i := i) h3 (by simpa using e)
    exact ⟨u, by simpa using h4, h5⟩
theorem foot_args (ds : List D) (k : Nat) (x : Addr) : footS (ds.map (fun d => some (P.val d)) ++ List.replicate k none) x = 0 := by
  induction ds with
  | nil =>
    simp only [List.map_nil, List.nil_append]
    induction k with
    | zero => rfl
    | succ k ih => rw [List.replicate_succ]; exact ih
  | cons d r ih =>
    simp only [List.map_cons, List.cons_append, footS, footP, ih]
theorem ss_args {K : PySem.W.Frag} {ρ : List Addr} {H : Hp} {N : List Str} {ds : List D} {vs : List V} (r : Reps K ρ H ds vs) : SS K ρ H (ds.map (fun d => some (P.val d)) ++ List.replicate (N.length - ds.length) none) (L2.start N vs) := by
  have hl := reps_len r
  refine ⟨by simp [L2.start, hl], fun i p e => ?_⟩
  by_cases hi : i < ds.length
  · rw [List.getElem?_append_left (by simpa using hi), List.getElem?_map] at e
    cases q : ds[i]? with
    | none => rw [q] at e; cases e
    | some d =>
      rw [q] at e
      simp at e
      subst e
      obtain ⟨v, h1, h2⟩ := reps_get r q
      refine ⟨v, ?_, h2⟩
      unfold L2.start
      rw [List.getElem?_append_left (by rw [List.length_map]; omega), List.getElem?_map, h1]
      rfl
  · rw [List.getElem?_append_right (by simpa using hi), List.getElem?_replicate] at e
    split at e <;> cases e

/-- THE RULE for a def: its body's denotation -/
theorem fnG_of {Pg : Program} {w : World} {K : PySem.W.Frag} {mg : Str → Option Value} {base : Heap} {k : Nat} {x qual : Str} {st : Stmt} {f : Addr} {fd : FuncData} {N ps : List Str} {b : FS} (Fu : Fun K x qual st f fd) (Sc : FnScope N ps (defScope st)) (hb : Binds K fd ps [])
    (hn : ps.length ≤ N.length)
    (body : ∀ (cd : Value) (A : Around) (outer : List Env) (s : Shared) (H : Hp) (E : XK), Room k (A.deeper (envOfC qual (defScope st) s.heap.objs.size f cd)) → A.guards = some [] →
      BF (cxOf (L2.CX Pg w) Pg w K mg base N qual (defScope st) f cd A outer s H E) (fun cls d _ H => E cls d H) (defBody st) b) :
    FnG Pg w K mg base (k + 1) f (fnDen ps.length N.length b) := by
  obtain ⟨oc, od, kV, doc, pm, an, cd, ct, osl, rfl, lk, hcd⟩ := Fu.ex
  refine ⟨Fu.kp, fun A outer s H us vs Q E room gu e0 vals sp => ?_⟩
  have inK : K.In s.heap := e0.mod.kin.keeps fun a o z => (e0.bs a o z).1
  have noLim : s.heap.NoLimit := e0.mod.nolimit.keeps fun a o z => (e0.bs a o z).1
  obtain ⟨ρ, μ, ds, C, XE, sm, one, rs, ⟨hl, hg⟩, hC, hE⟩ := sp
  have lv : vs.length = ps.length := by rw [← reps_len rs]; exact hl
  have lu : us.length = ps.length := by rw [← vals.length]; exact lv
  have bnd := hb s us inK (by rw [List.append_nil]; exact lu)
  rw [List.append_nil] at bnd
  have kinds : ∀ y ∈ ps.zip us, (defScope st).names.lookup y.1 = some .local ∨ ((defScope st).names.lookup y.1 = some .cell ∧ ((cellsFrom (s.heap.objs.size + 1) (defScope st).names []).lookup y.1).isSome = true) := by
    rintro ⟨n, v⟩ hy
    rcases Sc.par n (List.of_mem_zip hy).1 with q | q
    · exact .inl q
    · exact .inr ⟨q, PySem.W.cellsFrom_some _ _ _ (.inl q)⟩
  refine codeAny_call_function room.depth (inK _ _ lk) rfl Sc.co Sc.gen rfl (PySem.W.codeRec_of inK hcd) (bnd _ _ _ _ ?_)
  refine wpAny_newFunctionEnv_cells Sc.kind kinds fun env he s1 y => ?_
  subst he
  refine ⟨noLim.keeps y.toInCall.keep, codeAny_func ?_⟩
  have I := inv_start (CX := L2.CX Pg w) (E := E) Sc room.hd e0 lv vals y
  have hS : Hold K ρ μ (ds.map (fun d => some (P.val d)) ++ List.replicate (N.length - ps.length) none) (L2.start N vs) H := by
    rw [← hl]
    exact ⟨sm, ss_args rs, fun z => by rw [foot_args]; have := one z; omega⟩
  have low : ∀ {ρ' : List Addr} {μ' : Mu} {H' : Hp} {F : Addr → Nat}, Evo K (footB ρ μ (ds.map (fun d => some (P.val d)) ++ List.replicate (N.length - ps.length) none)) ρ H ρ' μ' H' F → Evo K (footM ρ μ) ρ H ρ' μ' H' F := fun {ρ' μ' H' F} e =>
    ⟨e.sm, e.ext, fun a o q z => e.keep a o q (by show footS _ a + footM ρ μ a = 0; rw [foot_args]; omega), fun z q => by
      rcases e.grow z q with t | t
      · have t' : 1 ≤ footS (ds.map (fun d => some (P.val d)) ++ List.replicate (N.length - ps.length) none) z + footM ρ μ z := t
        rw [foot_args] at t'
        exact .inl (by omega)
      · exact .inr t, e.one⟩
  have run := (body cd A outer s H E (room.deeper _) gu).run [] s1 (L2.start N vs) H { nx := fun _ H' => Q .non H', rt := Q } I ⟨ρ, μ, ds.map (fun d => some (P.val d)) ++ List.replicate (N.length - ps.length) none, { nx := fun _ μ' => C (.val .non) μ', rt := fun p μ' => match p with | .bor _ (.slot _) => False | p => C p μ', bk := fun _ _ => False, ct := fun _ _ => False, ex := fun x _ μ' => XE x μ' }, hS, hg, fun δ' μ' c ρ' σ' H' e _ => hC (.val .non) μ' c ρ' H' .non ((low e).less fun z => by simp [footP]) rfl, fun _ _ c => c.elim, fun _ _ c => c.elim, fun p μ' c ρ' H' v e r => ?_,
    fun y δ' μ' c ρ' σ' H' cls d e _ r => hE y μ' c ρ' H' cls d (low e).drop r⟩
  · refine wpAny_mono run (fun fl s' hs => ?_) fun e s' hs => hs
    have fin : ∀ {σ' : L2.St} {H' : Hp} {v : V} {u : Value}, Inv (cxOf (L2.CX Pg w) Pg w K mg base N qual (defScope st) f cd A outer s H E) [] σ' H' s' → RelV v u → Q v H' → CE outer Pg w H s Q u s' :=
      fun {σ' H' v u} J rv q => ⟨v, H', J.os, J.bare, J.base, J.hok, rv, q⟩
    cases fl with
    | next =>
      obtain ⟨σ', H', J, q⟩ := hs
      exact fin (v := V.non) (u := Value.none) J rfl q
    | ret u =>
      obtain ⟨v, σ', H', J, rv, q⟩ := hs
      exact fin J rv q
    | cont =>
      obtain ⟨_, _, _, q⟩ := hs
      exact q.elim
    | brk =>
      obtain ⟨_, _, _, q⟩ := hs
      exact q.elim
  · cases p with
    | val d => exact hC _ μ' c ρ' H' v (low e) r
    | own a l => exact hC _ μ' c ρ' H' v (low e) r
    | bor a pl =>
      cases pl with
      | slot i => exact c.elim
      | fld n g => exact hC _ μ' c ρ' H' v (low e) r
end NT

/-! NT: expressions: constants, names, operators, comparisons, tests, subscripts, displays. -/
namespace NT
open PySem PySem.Spec PyProof.Rows L2

/-! ### what is read of a list -/
def lget (δ : Sl) (μ : Mu) : P → Option (List D)
  | .val (.lst ds) => some ds
  | .val (.kls ds) => some ds
  | .val (.ref n) => match μ[n]? with
    | some (.lst ds) => some ds
    | _ => none
  | .own _ ds => some ds
  | .bor a (.slot i) => match δ[i]? with
    | some (some (.own b ds)) => if b = a then some ds else none
    | _ => none
  | .bor a (.fld n f) => match μ[n]? with
    | some (.ins _ fs) => match fs.lookup f with
      | some (.own b ds) => if b = a then some ds else none
      | _ => none
    | _ => none
  | _ => none
/-- .. of one that no module holds -/
def lgetR (δ : Sl) (μ : Mu) : P → Option (List D)
  | .val (.kls _) => none
  | p => lget δ μ p
section
variable {K : PySem.W.Frag} {W : WX} {ρ ρ1 ρ2 : List Addr} {μ μ1 μ2 : Mu} {δ δ1 : Sl} {σ σ1 : L2.St} {H H1 H2 : Hp} {F : Addr → Nat} {E : CX}
theorem fs_lookup : ∀ {fs : List (Str × P)} {vs : List (Str × V)} {f : Str} {p : P}, FsR K ρ H fs vs → fs.lookup f = some p → ∃ v, vs.lookup f = some v ∧ PR K ρ H p v
  | [], _, _, _, _, e => by simp at e
  | (g, q) :: r, vs, f, p, h, e => by
    obtain ⟨v, t, rfl, h2, h3⟩ := h
    rw [List.lookup_cons] at e ⊢
    cases hb : f == g with
    | true =>
      rw [hb] at e
      cases e
      exact ⟨v, rfl, h2⟩
    | false =>
      rw [hb] at e
      exact fs_lookup h3 e
theorem fs_none : ∀ {fs : List (Str × P)} {vs : List (Str × V)} {f : Str}, FsR K ρ H fs vs → fs.lookup f = none → vs.lookup f = none
  | [], _, _, h, _ => by
    have h' := h
    simp only [FsR] at h'
    subst h'
    rfl
  | (g, q) :: r, vs, f, h, e => by
    obtain ⟨v, t, rfl, h2, h3⟩ := h
    rw [List.lookup_cons] at e ⊢
    cases hb : f == g with
    | true => rw [hb] at e; cases e
    | false =>
      rw [hb] at e
      exact fs_none h3 e
theorem lget_rd (sm : SM K ρ μ H) (ss : SS K ρ H δ σ) {p : P} {x : V} {ds : List D} (r : PR K ρ H p x) (e : lget δ μ p = some ds) : ∃ a xs, x = .ref a ∧ SqL K H a xs ∧ Reps K ρ H ds xs ∧ ((∀ l, p ≠ .val (.kls l)) → Rd H a (.lst xs)) := by
  cases p with
  | val d =>
    cases d with
    | lst l =>
      simp only [lget] at e
      cases e
      simp only [PR, Rep] at r
      obtain ⟨a, xs, o, h1, h2, h3⟩ := r
      exact ⟨a, xs, h1, .inl (.inr ⟨o, h2⟩), h3, fun _ => .inr ⟨o, h2⟩⟩
    | kls l =>
      simp only [lget] at e
      cases e
      simp only [PR, Rep] at r
      obtain ⟨a, xs, h1, h2, h3⟩ := r
      exact ⟨a, xs, h1, h2.seq, h3, fun z => absurd rfl (z ds)⟩
    | ref n =>
      simp only [lget] at e
      simp only [PR, Rep] at r
      obtain ⟨a, h1, h2⟩ := r
      cases q : μ[n]? with
      | none => rw [q] at e; cases e
      | some o =>
        rw [q] at e
        cases o with
        | lst l =>
          cases e
          obtain ⟨b, h3, xs, h4, h5⟩ := sm.obj n _ q
          rw [h2] at h3
          cases h3
          exact ⟨a, xs, h1, .inl (.inl h4), h5, fun _ => .inl h4⟩
        | _ => cases e
    | _ => cases e
  | own a l =>
    simp only [lget] at e
    cases e
    obtain ⟨h1, xs, h2, h3⟩ := r
    exact ⟨a, xs, h1, .inl (.inl h2), h3, fun _ => .inl h2⟩
  | bor a pl =>
    have r' : x = .ref a := r
    cases pl with
    | slot i =>
      simp only [lget] at e
      split at e
      · rename_i b l q
        split at e
        · rename_i hb
          cases e
          subst hb
          obtain ⟨v, h1, h2, xs, h3, h4⟩ := ss.at_ i _ q
          exact ⟨b, xs, r', .inl (.inl h3), h4, fun _ => .inl h3⟩
        · cases e
      · cases e
    | fld n f =>
      simp only [lget] at e
      split at e
      · rename_i C fs q
        split at e
        · rename_i b l q2
          split at e
          · rename_i hb
            cases e
            subst hb
            obtain ⟨c, h1, dx, vs, h2, h3⟩ := sm.obj n _ q
            obtain ⟨v, h4, h5, xs, h6, h7⟩ := fs_lookup h3 q2
            exact ⟨b, xs, r', .inl (.inl h6), h7, fun _ => .inl h6⟩
          · cases e
        · cases e
      · cases e
theorem lget_ok (h : Hold K ρ μ δ σ H) {p : P} {x : V} {ds : List D} (r : PR K ρ H p x) (e : lget δ μ p = some ds) : ∃ a xs, x = .ref a ∧ SqL K H a xs ∧ Reps K ρ H ds xs := by
  obtain ⟨a, xs, h1, h2, h3, _⟩ := lget_rd h.sm h.ss r e
  exact ⟨a, xs, h1, h2, h3⟩
theorem lgetR_ok (h : Hold K ρ μ δ σ H) {p : P} {x : V} {ds : List D} (r : PR K ρ H p x) (e : lgetR δ μ p = some ds) : ∃ a xs, x = .ref a ∧ Rd H a (.lst xs) ∧ Reps K ρ H ds xs := by
  have q : lget δ μ p = some ds ∧ ∀ l, p ≠ .val (.kls l) := by
    unfold lgetR at e
    split at e
    · cases e
    · rename_i hn
      exact ⟨e, hn⟩
  obtain ⟨a, xs, h1, _, h3, h4⟩ := lget_rd h.sm h.ss r q.1
  exact ⟨a, xs, h1, h4 q.2, h3⟩
/-- a result that is a value of the state as it is -/
theorem Hold.val (h : Hold K ρ μ δ σ H) {p : P} (e : ∀ x, footP p x = 0) : Evo K (footM ρ μ) ρ H ρ μ H (footP p) := h.refl.less fun x => by rw [e x]; exact Nat.zero_le _
end

/-! ### constants and names -/
def eVal (d : D) : FE := fun _ μ C _ => C (.val d) μ
def eVar (i : Nat) : FE := fun δ μ C _ => match δ[i]? with
  | some (some (.own a _)) => C (.bor a (.slot i)) μ
  | some (some p) => C p μ
  | _ => False
section
variable {X : Cx} {W : WX} {pos : Pos}
theorem e_val {e : Expr} {d : D} {v : V} (h : PE X e (tC v)) (r : ∀ ρ H, Rep X.K ρ H d v) : EF X W e (eVal d) := pe_imp h fun σ H Q ⟨ρ, μ, δ, C, E, ho, c, hC, _⟩ => hC _ _ c ρ H v (ho.val fun _ => rfl) (r ρ H)
theorem e_int {i : Int} {j : Nat} : EF X W (.Constant (.int i) j pos) (eVal (.int i)) := e_val pe_int fun _ _ => rfl
theorem e_bl {b : Bool} {j : Nat} : EF X W (.Constant (.bool b) j pos) (eVal (.bl b)) := e_val pe_bl fun _ _ => rfl
theorem e_non {j : Nat} : EF X W (.Constant .none j pos) (eVal .non) := e_val pe_non fun _ _ => rfl
theorem e_str {x : Str} {j : Nat} : EF X W (.Constant (.str x) j pos) (eVal (.str x)) := e_val pe_str fun _ _ => rfl
theorem ev_var {K : PySem.W.Frag} {σ : L2.St} {H : Hp} {i : Nat} {Q : VK} (h : liftE K W (eVar i) σ H Q) : tVar i σ H Q := by
  obtain ⟨ρ, μ, δ, C, E, ho, c, hC, _⟩ := h
  simp only [eVar] at c
  split at c
  · rename_i a ds q
    obtain ⟨v, h1, h2, h3⟩ := ho.ss.at_ i _ q
    exact ⟨v, h1, hC _ _ c ρ H v (ho.val fun _ => rfl) h2⟩
  · rename_i p hne q
    obtain ⟨v, h1, h2⟩ := ho.ss.at_ i _ q
    refine ⟨v, h1, hC _ _ c ρ H v (ho.val fun x => ?_) h2⟩
    cases p with
    | own a ds => exact absurd rfl (hne a ds)
    | _ => rfl
  · exact c.elim
theorem e_var (i : Nat) {x : Str} (hN : X.N[i]? = some x := by rfl) (hv : Vis X.env.scope x := by first | exact Or.inl rfl | exact Or.inr (Or.inl rfl) | exact Or.inr (Or.inr rfl)) (hd : (x == ("__debug__" : Str)) = false := by decide)
    (hcd : (x == ("__classdict__" : Str)) = false := by decide) : EF X W (.Name x pos) (eVar i) := pe_imp (pv i hN hv hd hcd) fun _ _ _ h => ev_var h
/-- a module's constant -/
theorem e_glob {x : Str} {d : D} {v : V} {u : Value} (hg : Gl X x) (hm : X.mg x = some u) (r : RelV v u) (rp : ∀ ρ H, Rep X.K ρ H d v) (hd : (x == ("__debug__" : Str)) = false := by decide) : EF X W (.Name x pos) (eVal d) := e_val (pe_glob hg hm r hd) rp
end

/-! ### two places, one place -/
abbrev M2 := P → P → Sl → Mu → (P → Mu → Prop) → Prop
abbrev M1 := P → Sl → Mu → (P → Mu → Prop) → Prop
def Br2 (K : PySem.W.Frag) (r : R2) (m : M2) : Prop := ∀ ρ μ δ σ H p q x y C Q, Hold K ρ μ δ σ H → PR K ρ H p x → PR K ρ H q y → (∀ z, footP p z + footP q z + footM ρ μ z ≤ 1) → m p q δ μ C →
  (∀ p' μ', C p' μ' → ∀ ρ' H' v, Evo K (footM ρ μ) ρ H ρ' μ' H' (footP p') → PR K ρ' H' p' v → Q v H') → r x y H Q
def Br1 (K : PySem.W.Frag) (r : V → Hp → VK → Prop) (m : M1) : Prop := ∀ ρ μ δ σ H p x C Q, Hold K ρ μ δ σ H → PR K ρ H p x → (∀ z, footP p z + footM ρ μ z ≤ 1) → m p δ μ C →
  (∀ p' μ', C p' μ' → ∀ ρ' H' v, Evo K (footM ρ μ) ρ H ρ' μ' H' (footP p') → PR K ρ' H' p' v → Q v H') → r x H Q
def eOp2 (m : M2) (a b : FE) : FE := fun δ μ C E => a δ μ (fun p μ1 => b δ μ1 (fun q μ2 => m p q δ μ2 C) E) E
def eOp1 (m : M1) (a : FE) : FE := fun δ μ C E => a δ μ (fun p μ1 => m p δ μ1 C) E
section
variable {X : Cx} {W : WX} {pos : Pos} {a b : Expr} {fa fb : FE}
theorem op2_lift {K : PySem.W.Frag} {r : R2} {m : M2} (br : Br2 K r m) {σ : L2.St} {H : Hp} {Q : VK} (h : liftE K W (eOp2 m fa fb) σ H Q) : tOp r (liftE K W fa) (liftE K W fb) σ H Q := by
  obtain ⟨ρ, μ, δ, C, E, ho, c, hC, hX⟩ := h
  refine ⟨ρ, μ, δ, _, E, ho, c, fun p μ1 c1 ρ1 H1 v1 e1 r1 => ?_, hX⟩
  have ho1 := ho.after e1
  refine ⟨ρ1, μ1, δ, _, E, ho1, c1, fun q μ2 c2 ρ2 H2 v2 e2 r2 => ?_, hX.after e1⟩
  obtain ⟨r1', ap⟩ := e1.wait r1 e2
  exact br ρ2 μ2 δ σ H2 p q v1 v2 C Q (ho1.after e2) r1' r2 ap c2 fun p' μ' c3 ρ3 H3 v3 e3 r3 => hC p' μ' c3 ρ3 H3 v3 ((e1.transM e2).transM e3) r3
theorem op1_lift {K : PySem.W.Frag} {r : V → Hp → VK → Prop} {m : M1} (br : Br1 K r m) {σ : L2.St} {H : Hp} {Q : VK} (h : liftE K W (eOp1 m fa) σ H Q) : liftE K W fa σ H (fun x H1 => r x H1 Q) := by
  obtain ⟨ρ, μ, δ, C, E, ho, c, hC, hX⟩ := h
  refine ⟨ρ, μ, δ, _, E, ho, c, fun p μ1 c1 ρ1 H1 v1 e1 r1 => ?_, hX⟩
  exact br ρ1 μ1 δ σ H1 p v1 C Q (ho.after e1) r1 e1.one c1 fun p' μ' c3 ρ3 H3 v3 e3 r3 => hC p' μ' c3 ρ3 H3 v3 (e1.transM e3) r3
theorem e_bin {op : Operator} {r : R2} {m : M2} (ho : OpR X (binaryOp op) r) (br : Br2 X.K r m) (ha : EF X W a fa) (hb : EF X W b fb) : EF X W (.BinOp a op b pos) (eOp2 m fa fb) := pe_imp (pe_op ho ha hb) fun _ _ _ h => op2_lift br h
theorem e_cmp {op : CmpOp} {r : R2} {m : M2} (ho : OpR X (compareOp op) r) (br : Br2 X.K r m) (ha : EF X W a fa) (hb : EF X W b fb) (hm : behindInMarks op b = false) : EF X W (.Compare a [op] [b] pos) (eOp2 m fa fb) := pe_imp (pe_cmpR ho ha hb hm) fun _ _ _ h => op2_lift br h
theorem e_un {op : UnaryOp} {r : V → Hp → VK → Prop} {m : M1} (ho : UnR X (unaryOp op) r) (br : Br1 X.K r m) (ha : EF X W a fa) : EF X W (.UnaryOp op a pos) (eOp1 m fa) := pe_imp (pe_un ho ha) fun _ _ _ h => op1_lift br h
end
end NT

/-! NT: the operators on trees. -/
namespace NT
open PySem PySem.Spec PyProof.Rows L2

section
variable {K : PySem.W.Frag} {W : WX} {ρ ρ1 ρ2 : List Addr} {μ μ1 μ2 : Mu} {δ δ1 : Sl} {σ σ1 : L2.St} {H H1 H2 : Hp} {F : Addr → Nat} {E : CX}
theorem reps_app : ∀ {ds es : List D} {xs ys : List V}, Reps K ρ H ds xs → Reps K ρ H es ys → Reps K ρ H (ds ++ es) (xs ++ ys)
  | [], _, _, _, h, q => by
    simp only [Reps] at h
    subst h
    exact q
  | d :: ds, es, _, ys, h, q => by
    simp only [Reps] at h
    obtain ⟨v, r, rfl, h2, h3⟩ := h
    simp only [List.cons_append, Reps]
    exact ⟨v, r ++ ys, rfl, h2, reps_app h3 q⟩
theorem reps_nil : Reps K ρ H [] [] := by simp only [Reps]
theorem reps_cons {d : D} {v : V} {ds : List D} {vs : List V} (a : Rep K ρ H d v) (b : Reps K ρ H ds vs) : Reps K ρ H (d :: ds) (v :: vs) := by
  simp only [Reps]
  exact ⟨v, vs, rfl, a, b⟩
/-- a new list that stands alone -/
theorem Hold.newList (h : Hold K ρ μ δ σ H) {a : Addr} {ds : List D} {xs : List V} (n : H a = none) (r : Reps K ρ H ds xs) : Evo K (footM ρ μ) ρ H ρ μ (upd H a (.lst xs)) (footP (.own a ds)) ∧ PR K ρ (upd H a (.lst xs)) (.own a ds) (.ref a) :=
  ⟨Evo.new h.sm h.le n, rfl, xs, upd_same, r.stay (fun b u q _ => stay_new n b u q) (Ext.refl ρ)⟩
theorem Hold.newTup (h : Hold K ρ μ δ σ H) {a : Addr} {ds : List D} {xs : List V} (n : H a = none) (r : Reps K ρ H ds xs) : Evo K (footM ρ μ) ρ H ρ μ (upd H a (.tup xs)) (footP (.val (.tup ds))) ∧ PR K ρ (upd H a (.tup xs)) (.val (.tup ds)) (.ref a) := by
  refine ⟨(Evo.new h.sm h.le n).drop, ?_⟩
  simp only [PR, Rep]
  exact ⟨a, xs, rfl, .inl upd_same, r.stay (fun b u q _ => stay_new n b u q) (Ext.refl ρ)⟩
theorem pr_tup {ds : List D} {v : V} (h : PR K ρ H (.val (.tup ds)) v) : ∃ a xs, v = .ref a ∧ SqU K H a xs ∧ Reps K ρ H ds xs := by
  simpa only [PR, Rep] using h
theorem pr_int {i : Int} {v : V} (h : PR K ρ H (.val (.int i)) v) : v = .int i := by simpa only [PR, Rep] using h
theorem pr_bl {i : Bool} {v : V} (h : PR K ρ H (.val (.bl i)) v) : v = .bl i := by simpa only [PR, Rep] using h
theorem pr_str {i : Str} {v : V} (h : PR K ρ H (.val (.str i)) v) : v = .str i := by simpa only [PR, Rep] using h
theorem pr_non {v : V} (h : PR K ρ H (.val .non) v) : v = .non := by simpa only [PR, Rep] using h
end

/-! ### + - * // % -/
/-- lists that are tracked or locked -/
def rCatR : R2 := fun x y H Q => ∃ a b xs ys, x = .ref a ∧ y = .ref b ∧ Rd H a (.lst xs) ∧ Rd H b (.lst ys) ∧ xs.length + ys.length ≤ sizeLine ∧ ∀ p, H p = none → Q (.ref p) (upd H p (.lst (xs ++ ys)))
theorem rd_isL {X : Cx} {pins : List (Addr × Obj)} {σ : L2.St} {H : Hp} {s : Shared} {a : Addr} {xs : List V} (I : Inv X pins σ H s) (h : Rd H a (.lst xs)) :
    xs.length ≤ sizeLine ∧ ∃ (its : List Value) (n : Nat), Vals xs its ∧ s.heap.get? a = some { cls := .type "list", data := .seq its.toArray n } := h.ok I.hok
theorem op_catR {X : Cx} : OpR X (binaryOp .Add) rCatR := by
  intro pins s σ H x y v u Q I rx ry h
  obtain ⟨a, b, xs, ys, rfl, rfl, hA, hB, hz, q⟩ := h
  obtain rfl : v = .ref a := rx
  obtain rfl : u = .ref b := ry
  obtain ⟨z1, i1, n1, r1, g1⟩ := rd_isL I hA
  obtain ⟨z2, i2, n2, r2, g2⟩ := rd_isL I hB
  have l1 := r1.length
  have l2 := r2.length
  refine PySem.P.add_list g1 g2 ?_ (by simp only [List.size_toArray]; omega)
  rw [show i1.toArray ++ i2.toArray = (i1 ++ i2).toArray by simp]
  exact ⟨.ref s.heap.objs.size, _, I.lnew (t' := s.toks) (r1.append r2) (by simp only [List.length_append]; omega), rfl, q _ I.fresh⟩
def rAddN (K : PySem.W.Frag) : R2 := fun x y H Q => rI0 (fun i j => .int (i + j)) x y H Q ∨ (∃ i j, x = .str i ∧ y = .str j ∧ i.length + j.length ≤ sizeLine ∧ Q (.str (i ++ j)) H) ∨ rCatA K x y H Q ∨ rCatR x y H Q
theorem op_addN {X : Cx} : OpR X (binaryOp .Add) (rAddN X.K) := op_add.or (op_add_str.or (op_catA.or op_catR))
def addM : M2 := fun p q δ μ C => match p, q with
  | .val (.int i), .val (.int j) => C (.val (.int (i + j))) μ
  | .val (.str a), .val (.str b) => a.length + b.length ≤ sizeLine ∧ C (.val (.str (a ++ b))) μ
  | .val (.tup xs), .val (.tup ys) => xs.length + ys.length ≤ sizeLine ∧ C (.val (.tup (xs ++ ys))) μ
  | p, q => match lgetR δ μ p, lgetR δ μ q with
    | some xs, some ys => xs.length + ys.length ≤ sizeLine ∧ ∀ a, C (.own a (xs ++ ys)) μ
    | _, _ => False
theorem br_add {K : PySem.W.Frag} : Br2 K (rAddN K) addM := by
  intro ρ μ δ σ H p q x y C Q ho rp rq ap c hC
  unfold addM at c
  split at c
  · rename_i i j
    exact .inl ⟨i, j, pr_int rp, pr_int rq, hC _ _ c ρ H _ (ho.val fun _ => rfl) (by simp only [PR, Rep])⟩
  · rename_i i j
    exact .inr (.inl ⟨i, j, pr_str rp, pr_str rq, c.1, hC _ _ c.2 ρ H _ (ho.val fun _ => rfl) (by simp only [PR, Rep])⟩)
  · rename_i ds es
    obtain ⟨a, xs, e1, e2, e3⟩ := pr_tup rp
    obtain ⟨b, ys, g1, g2, g3⟩ := pr_tup rq
    have l1 := reps_len e3
    have l2 := reps_len g3
    refine .inr (.inr (.inl ⟨a, b, xs, ys, e1, g1, e2.seq, g2.seq, by omega, fun z => ?_, fun z z2 => ?_, fun z z2 p np => ?_⟩))
    · have : ds = [] := List.eq_nil_of_length_eq_zero (by rw [l1, z]; rfl)
      subst this
      refine hC _ _ c.2 ρ H _ (ho.val fun _ => rfl) ?_
      simp only [PR, Rep]
      exact ⟨b, ys, rfl, g2, g3⟩
    · have : es = [] := List.eq_nil_of_length_eq_zero (by rw [l2, z2]; rfl)
      subst this
      refine hC _ _ c.2 ρ H _ (ho.val fun _ => rfl) ?_
      simp only [PR, Rep]
      exact ⟨a, xs, rfl, e2, by rw [List.append_nil]; exact e3⟩
    · obtain ⟨ev, rp'⟩ := ho.newTup np (reps_app e3 g3)
      exact hC _ _ c.2 _ _ _ ev rp'
  · split at c
    · rename_i xs ys h1 h2
      obtain ⟨a, vs, e1, e2, e3⟩ := lgetR_ok ho rp h1
      obtain ⟨b, ws, g1, g2, g3⟩ := lgetR_ok ho rq h2
      have l1 := reps_len e3
      have l2 := reps_len g3
      refine .inr (.inr (.inr ⟨a, b, vs, ws, e1, g1, e2, g2, by omega, fun p np => ?_⟩))
      obtain ⟨ev, rp'⟩ := ho.newList np (reps_app e3 g3)
      exact hC _ _ (c.2 p) _ _ _ ev rp'
    · exact c.elim
/-- ints to an int, under a guard -/
def intM (G : Int → Int → Prop) (g : Int → Int → Int) : M2 := fun p q _ μ C => match p, q with
  | .val (.int i), .val (.int j) => G i j ∧ C (.val (.int (g i j))) μ
  | _, _ => False
def cmpM (g : Int → Int → Bool) : M2 := fun p q _ μ C => match p, q with
  | .val (.int i), .val (.int j) => C (.val (.bl (g i j))) μ
  | _, _ => False
theorem br_int {K : PySem.W.Frag} {G : Int → Int → Prop} {g : Int → Int → Int} : Br2 K (rI G fun i j => .int (g i j)) (intM G g) := by
  intro ρ μ δ σ H p q x y C Q ho rp rq ap c hC
  unfold intM at c
  split at c
  · exact ⟨_, _, pr_int rp, pr_int rq, c.1, hC _ _ c.2 ρ H _ (ho.val fun _ => rfl) (by simp only [PR, Rep])⟩
  · exact c.elim
theorem br_cmp {K : PySem.W.Frag} {g : Int → Int → Bool} : Br2 K (rI0 fun i j => .bl (g i j)) (cmpM g) := by
  intro ρ μ δ σ H p q x y C Q ho rp rq ap c hC
  unfold cmpM at c
  split at c
  · exact ⟨_, _, pr_int rp, pr_int rq, hC _ _ c ρ H _ (ho.val fun _ => rfl) (by simp only [PR, Rep])⟩
  · exact c.elim
def subM : M2 := fun p q _ μ C => match p, q with
  | .val (.int i), .val (.int j) => C (.val (.int (i - j))) μ
  | _, _ => False
theorem br_sub {K : PySem.W.Frag} : Br2 K (rI0 fun i j => .int (i - j)) subM := by
  intro ρ μ δ σ H p q x y C Q ho rp rq ap c hC
  unfold subM at c
  split at c
  · exact ⟨_, _, pr_int rp, pr_int rq, hC _ _ c ρ H _ (ho.val fun _ => rfl) (by simp only [PR, Rep])⟩
  · exact c.elim
/-- a product that is not too long -/
def MulOk (i j : Int) : Prop := CMul i j ∨ CMulW i j
theorem op_mulN {X : Cx} : OpR X (binaryOp .Mult) (rI MulOk fun i j => .int (i * j)) := by
  intro pins s σ H x y v u Q I rx ry h
  obtain ⟨i, j, e1, e2, hc, q⟩ := h
  rcases hc with hc | hc
  · exact op_mul pins s σ H x y v u Q I rx ry ⟨i, j, e1, e2, hc, q⟩
  · exact op_mulW pins s σ H x y v u Q I rx ry ⟨i, j, e1, e2, hc, q⟩
theorem mulOk_l {i j : Int} (h1 : -(2 ^ 64) < i) (h2 : i < 2 ^ 64) : MulOk i j := .inl (.inl ⟨h1, h2⟩)
theorem mulOk_r {i j : Int} (h1 : -(2 ^ 64) < j) (h2 : j < 2 ^ 64) : MulOk i j := .inl (.inr ⟨h1, h2⟩)
/-- a list times an int, a tuple times an int -/
def rMulN : R2 := fun x y H Q => rI MulOk (fun i j => .int (i * j)) x y H Q ∨ rRep x y H Q
theorem op_mulA {X : Cx} : OpR X (binaryOp .Mult) rMulN := op_mulN.or op_rep
def mulM : M2 := fun p q _ μ C => match p, q with
  | .val (.int i), .val (.int j) => MulOk i j ∧ C (.val (.int (i * j))) μ
  | .own _ xs, .val (.int k) => (-(2 ^ 63) ≤ k ∧ k < 2 ^ 63 ∧ xs.length * k.toNat ≤ sizeLine) ∧ ∀ b, C (.own b (List.replicate k.toNat xs).flatten) μ
  | _, _ => False
theorem reps_rep {K : PySem.W.Frag} {ρ : List Addr} {H : Hp} {ds : List D} {xs : List V} (h : Reps K ρ H ds xs) : ∀ k : Nat, Reps K ρ H (List.replicate k ds).flatten (List.replicate k xs).flatten
  | 0 => by simpa using reps_nil
  | k + 1 => by
    rw [List.replicate_succ, List.replicate_succ, List.flatten_cons, List.flatten_cons]
    exact reps_app h (reps_rep h k)
theorem br_mul {K : PySem.W.Frag} : Br2 K rMulN mulM := by
  intro ρ μ δ σ H p q x y C Q ho rp rq ap c hC
  unfold mulM at c
  split at c
  · exact .inl ⟨_, _, pr_int rp, pr_int rq, c.1, hC _ _ c.2 ρ H _ (ho.val fun _ => rfl) (by simp only [PR, Rep])⟩
  · rename_i a ds k
    obtain ⟨e1, xs, e2, e3⟩ := rp
    have l := reps_len e3
    obtain ⟨⟨c1, c2, c3⟩, c4⟩ := c
    refine .inr ⟨a, k, xs, e1, pr_int rq, e2, c1, c2, by rw [← l]; exact c3, fun p np => ?_⟩
    obtain ⟨ev, rp'⟩ := ho.newList np (reps_rep e3 k.toNat)
    exact hC _ _ (c4 p) _ _ _ ev rp'
  · exact c.elim
/-- a divisor -/
def DivOk (j : Int) : Prop := 0 < j ∧ j.natAbs.log2 < 9000
theorem divOk_of {j : Int} (h1 : 0 < j) (h2 : j < 2 ^ 64) : DivOk j := ⟨h1, Nat.lt_of_lt_of_le (PySem.Flt.log2_lt_of (k := 64) (by decide) (by omega)) (by decide)⟩
theorem op_fdivO {X : Cx} : OpR X (binaryOp .FloorDiv) (rI (fun _ j => DivOk j) fun i j => .int (i / j)) := op_fdivW
def fdivM : M2 := intM (fun _ j => DivOk j) fun i j => i / j
def modM : M2 := intM (fun _ j => 0 < j) fun i j => i % j
section
variable {X : Cx} {W : WX} {pos : Pos} {a b : Expr} {fa fb : FE}
theorem e_add (ha : EF X W a fa) (hb : EF X W b fb) : EF X W (.BinOp a .Add b pos) (eOp2 addM fa fb) := e_bin op_addN br_add ha hb
theorem e_sub (ha : EF X W a fa) (hb : EF X W b fb) : EF X W (.BinOp a .Sub b pos) (eOp2 subM fa fb) := e_bin op_sub br_sub ha hb
theorem e_mul (ha : EF X W a fa) (hb : EF X W b fb) : EF X W (.BinOp a .Mult b pos) (eOp2 mulM fa fb) := e_bin op_mulA br_mul ha hb
theorem e_fdiv (ha : EF X W a fa) (hb : EF X W b fb) : EF X W (.BinOp a .FloorDiv b pos) (eOp2 fdivM fa fb) := e_bin op_fdivO br_int ha hb
theorem e_mod (ha : EF X W a fa) (hb : EF X W b fb) : EF X W (.BinOp a .Mod b pos) (eOp2 modM fa fb) := e_bin op_mod br_int ha hb
theorem e_lt (ha : EF X W a fa) (hb : EF X W b fb) : EF X W (.Compare a [.Lt] [b] pos) (eOp2 (cmpM fun i j => decide (i < j)) fa fb) := e_cmp op_lt br_cmp ha hb (nomark b)
theorem e_le (ha : EF X W a fa) (hb : EF X W b fb) : EF X W (.Compare a [.LtE] [b] pos) (eOp2 (cmpM fun i j => decide (i ≤ j)) fa fb) := e_cmp op_le br_cmp ha hb (nomark b)
theorem e_gt (ha : EF X W a fa) (hb : EF X W b fb) : EF X W (.Compare a [.Gt] [b] pos) (eOp2 (cmpM fun i j => decide (j < i)) fa fb) := e_cmp op_gt br_cmp ha hb (nomark b)
theorem e_ge (ha : EF X W a fa) (hb : EF X W b fb) : EF X W (.Compare a [.GtE] [b] pos) (eOp2 (cmpM fun i j => decide (j ≤ i)) fa fb) := e_cmp op_ge br_cmp ha hb (nomark b)
end
/-! ### - not, is None -/
def negM : M1 := fun p _ μ C => match p with
  | .val (.int i) => C (.val (.int (-i))) μ
  | _ => False
theorem br_neg {K : PySem.W.Frag} : Br1 K (rU fun i => .int (-i)) negM := by
  intro ρ μ δ σ H p x C Q ho rp ap c hC
  unfold negM at c
  split at c
  · exact ⟨_, pr_int rp, hC _ _ c ρ H _ (ho.val fun _ => rfl) (by simp only [PR, Rep])⟩
  · exact c.elim
def isN : P → Bool
  | .val .non => true
  | _ => false
def isnM (neg : Bool) : M2 := fun p q _ μ C => match q with
  | .val .non => C (.val (.bl (if neg then !isN p else isN p))) μ
  | _ => False
theorem isN_ok {K : PySem.W.Frag} {ρ : List Addr} {H : Hp} {p : P} {x : V} (r : PR K ρ H p x) : decide (x = .non) = isN p := by
  cases p with
  | val d =>
    cases d with
    | non => rw [pr_non r]; rfl
    | bl b => rw [pr_bl r]; rfl
    | int b => rw [pr_int r]; rfl
    | str b => rw [pr_str r]; rfl
    | tup b =>
      obtain ⟨a, xs, e, _⟩ := pr_tup r
      rw [e]; rfl
    | lst b =>
      simp only [PR, Rep] at r
      obtain ⟨a, xs, o, e, _⟩ := r
      rw [e]; rfl
    | kls b =>
      simp only [PR, Rep] at r
      obtain ⟨a, xs, e, _⟩ := r
      rw [e]; rfl
    | ref n =>
      simp only [PR, Rep] at r
      obtain ⟨a, e, _⟩ := r
      rw [e]; rfl
  | own a ds => rw [r.1]; rfl
  | bor a pl =>
    obtain rfl : x = .ref a := r
    rfl
theorem br_isn {K : PySem.W.Frag} : Br2 K (fun x y H Q => y = .non ∧ Q (.bl (decide (x = .non))) H) (isnM false) := by
  intro ρ μ δ σ H p q x y C Q ho rp rq ap c hC
  unfold isnM at c
  split at c
  · refine ⟨pr_non rq, hC _ _ c ρ H _ (ho.val fun _ => rfl) ?_⟩
    simp only [PR, Rep]
    rw [isN_ok rp]
    rfl
  · exact c.elim
theorem br_notn {K : PySem.W.Frag} : Br2 K (fun x y H Q => y = .non ∧ Q (.bl (!decide (x = .non))) H) (isnM true) := by
  intro ρ μ δ σ H p q x y C Q ho rp rq ap c hC
  unfold isnM at c
  split at c
  · refine ⟨pr_non rq, hC _ _ c ρ H _ (ho.val fun _ => rfl) ?_⟩
    simp only [PR, Rep]
    rw [isN_ok rp]
    rfl
  · exact c.elim
section
variable {X : Cx} {W : WX} {pos : Pos} {a b : Expr} {fa fb : FE}
theorem e_neg (ha : EF X W a fa) : EF X W (.UnaryOp .USub a pos) (eOp1 negM fa) := e_un un_neg br_neg ha
theorem e_isn (ha : EF X W a fa) (hb : EF X W b fb) : EF X W (.Compare a [.Is] [b] pos) (eOp2 (isnM false) fa fb) := e_cmp op_isN br_isn ha hb (nomark b)
theorem e_notn (ha : EF X W a fa) (hb : EF X W b fb) : EF X W (.Compare a [.IsNot] [b] pos) (eOp2 (isnM true) fa fb) := e_cmp op_notN br_notn ha hb (nomark b)
end
end NT

/-! NT: == and != of trees, truth, tests, displays, subscripts, len. -/
namespace NT
open PySem PySem.Spec PyProof.Rows L2

/-! ### trees as data -/
mutual
def D.py : D → PyData
  | .non => .none
  | .bl b => .bool b
  | .int i => .int i
  | .str s => .str s
  | .tup ds => .tuple (D.pys ds)
  | .lst ds => .list (D.pys ds)
  | .kls ds => .list (D.pys ds)
  | .ref _ => .none
def D.pys : List D → List PyData
  | [] => []
  | d :: ds => d.py :: D.pys ds
end
/-- plain data, at most so deep -/
def D.ok : Nat → D → Bool
  | 0, .tup _ => false
  | 0, .lst _ => false
  | 0, .kls _ => false
  | n + 1, .tup ds => ds.all (D.ok n)
  | n + 1, .lst ds => ds.all (D.ok n)
  | n + 1, .kls ds => ds.all (D.ok n)
  | _, .ref _ => false
  | _, .str s => PyData.strOk s
  | _, _ => true
mutual
def D.eqb : D → D → Bool
  | .non, .non => true
  | .bl a, .bl b => a == b
  | .bl a, .int j => (if a then 1 else 0) == j
  | .int i, .bl b => i == (if b then 1 else 0)
  | .int i, .int j => i == j
  | .str a, .str b => a == b
  | .tup a, .tup b => D.eqbs a b
  | .lst a, .lst b => D.eqbs a b
  | .lst a, .kls b => D.eqbs a b
  | .kls a, .lst b => D.eqbs a b
  | .kls a, .kls b => D.eqbs a b
  | _, _ => false
def D.eqbs : List D → List D → Bool
  | [], [] => true
  | a :: as, b :: bs => D.eqb a b && D.eqbs as bs
  | _, _ => false
end
mutual
def D.noref : D → Bool
  | .ref _ => false
  | .tup ds => D.norefs ds
  | .lst ds => D.norefs ds
  | .kls ds => D.norefs ds
  | _ => true
def D.norefs : List D → Bool
  | [] => true
  | d :: ds => d.noref && D.norefs ds
end
theorem norefs_all : ∀ ds : List D, D.norefs ds = ds.all D.noref
  | [] => by simp only [D.norefs, List.all_nil]
  | d :: ds => by simp only [D.norefs, List.all_cons, norefs_all ds]
theorem D.ok_noref : ∀ (n : Nat) (d : D), d.ok n = true → d.noref = true
  | 0, d, h => by cases d <;> simp_all [D.ok, D.noref]
  | n + 1, d, h => by
    cases d with
    | tup ds => simp only [D.ok, D.noref, norefs_all, List.all_eq_true] at h ⊢; exact fun x hx => D.ok_noref n x (h x hx)
    | lst ds => simp only [D.ok, D.noref, norefs_all, List.all_eq_true] at h ⊢; exact fun x hx => D.ok_noref n x (h x hx)
    | kls ds => simp only [D.ok, D.noref, norefs_all, List.all_eq_true] at h ⊢; exact fun x hx => D.ok_noref n x (h x hx)
    | _ => simp_all [D.ok, D.noref]
mutual
theorem D.eqv_py : ∀ (a b : D), a.noref = true → b.noref = true → PyData.eqv a.py b.py = D.eqb a b
  | .tup as, b, h1, h2 => by
    cases b with
    | tup bs => simp only [D.py, PyData.eqv, D.eqb]; exact D.eqvs_py as bs (by simpa only [D.noref] using h1) (by simpa only [D.noref] using h2)
    | ref n => simp [D.noref] at h2
    | _ => simp only [D.py, PyData.eqv, D.eqb]
  | .lst as, b, h1, h2 => by
    cases b with
    | lst bs => simp only [D.py, PyData.eqv, D.eqb]; exact D.eqvs_py as bs (by simpa only [D.noref] using h1) (by simpa only [D.noref] using h2)
    | kls bs => simp only [D.py, PyData.eqv, D.eqb]; exact D.eqvs_py as bs (by simpa only [D.noref] using h1) (by simpa only [D.noref] using h2)
    | ref n => simp [D.noref] at h2
    | _ => simp only [D.py, PyData.eqv, D.eqb]
  | .kls as, b, h1, h2 => by
    cases b with
    | lst bs => simp only [D.py, PyData.eqv, D.eqb]; exact D.eqvs_py as bs (by simpa only [D.noref] using h1) (by simpa only [D.noref] using h2)
    | kls bs => simp only [D.py, PyData.eqv, D.eqb]; exact D.eqvs_py as bs (by simpa only [D.noref] using h1) (by simpa only [D.noref] using h2)
    | ref n => simp [D.noref] at h2
    | _ => simp only [D.py, PyData.eqv, D.eqb]
  | .ref n, b, h1, _ => by simp [D.noref] at h1
  | .non, b, _, h2 => by
    cases b with
    | ref n => simp [D.noref] at h2
    | _ => simp only [D.py, PyData.eqv, D.eqb]
  | .bl x, b, _, h2 => by
    cases b with
    | ref n => simp [D.noref] at h2
    | _ => simp only [D.py, PyData.eqv, D.eqb]
  | .int x, b, _, h2 => by
    cases b with
    | ref n => simp [D.noref] at h2
    | _ => simp only [D.py, PyData.eqv, D.eqb]
  | .str x, b, _, h2 => by
    cases b with
    | ref n => simp [D.noref] at h2
    | _ => simp only [D.py, PyData.eqv, D.eqb]
theorem D.eqvs_py : ∀ (as bs : List D), D.norefs as = true → D.norefs bs = true → PyData.eqvAll (D.pys as) (D.pys bs) = D.eqbs as bs
  | [], [], _, _ => by simp only [D.pys, PyData.eqvAll, D.eqbs]
  | [], _ :: _, _, _ => by simp only [D.pys, PyData.eqvAll, D.eqbs]
  | _ :: _, [], _, _ => by simp only [D.pys, PyData.eqvAll, D.eqbs]
  | a :: as, b :: bs, h1, h2 => by
    simp only [D.norefs, Bool.and_eq_true] at h1 h2
    simp only [D.pys, PyData.eqvAll, D.eqbs]
    rw [D.eqv_py a b h1.1 h2.1, D.eqvs_py as bs h1.2 h2.2]
end
mutual
theorem D.eqb_refl : ∀ d : D, d.noref = true → D.eqb d d = true
  | .non, _ => by simp only [D.eqb]
  | .bl _, _ => by simp [D.eqb]
  | .int _, _ => by simp [D.eqb]
  | .str _, _ => by simp [D.eqb]
  | .tup ds, h => by simp only [D.eqb]; exact D.eqbs_refl ds (by simpa only [D.noref] using h)
  | .lst ds, h => by simp only [D.eqb]; exact D.eqbs_refl ds (by simpa only [D.noref] using h)
  | .kls ds, h => by simp only [D.eqb]; exact D.eqbs_refl ds (by simpa only [D.noref] using h)
  | .ref _, h => by simp [D.noref] at h
theorem D.eqbs_refl : ∀ ds : List D, D.norefs ds = true → D.eqbs ds ds = true
  | [], _ => by simp only [D.eqbs]
  | d :: ds, h => by
    simp only [D.norefs, Bool.and_eq_true] at h
    simp only [D.eqbs, Bool.and_eq_true]
    exact ⟨D.eqb_refl d h.1, D.eqbs_refl ds h.2⟩
end
theorem pys_map : ∀ ds : List D, D.pys ds = ds.map D.py
  | [] => by simp only [D.pys, List.map_nil]
  | d :: ds => by simp only [D.pys, List.map_cons, pys_map ds]
theorem canLayAll_all : ∀ l : List PyData, PyData.canLayAll0 l = l.all PyData.canLay0
  | [] => by simp only [PyData.canLayAll0, List.all_nil]
  | d :: ds => by simp only [PyData.canLayAll0, List.all_cons, canLayAll_all ds]
theorem depthAll_le : ∀ (l : List PyData) (n : Nat), (∀ x ∈ l, x.depth ≤ n) → PyData.depthAll l ≤ n
  | [], _, _ => by simp only [PyData.depthAll]; omega
  | d :: ds, n, h => by
    simp only [PyData.depthAll]
    have h1 := h d List.mem_cons_self
    have h2 := depthAll_le ds n fun x hx => h x (List.mem_cons_of_mem _ hx)
    omega
theorem D.ok_lay : ∀ (n : Nat) (d : D), d.ok n = true → d.py.canLay0 = true ∧ d.py.depth ≤ n
  | 0, d, h => by cases d <;> simp_all [D.ok, D.py, PyData.canLay0, PyData.depth]
  | n + 1, d, h => by
    have go : ∀ ds : List D, ds.all (D.ok n) = true → PyData.canLayAll0 (D.pys ds) = true ∧ PyData.depthAll (D.pys ds) ≤ n := fun ds q => by
      rw [List.all_eq_true] at q
      rw [canLayAll_all, pys_map, List.all_eq_true]
      refine ⟨fun x hx => ?_, depthAll_le _ _ fun x hx => ?_⟩
      · obtain ⟨e, he, rfl⟩ := List.mem_map.mp hx
        exact (D.ok_lay n e (q e he)).1
      · obtain ⟨e, he, rfl⟩ := List.mem_map.mp hx
        exact (D.ok_lay n e (q e he)).2
    cases d with
    | tup ds =>
      obtain ⟨h1, h2⟩ := go ds (by simpa only [D.ok] using h)
      simp only [D.py, PyData.canLay0, PyData.depth]
      exact ⟨h1, by omega⟩
    | lst ds =>
      obtain ⟨h1, h2⟩ := go ds (by simpa only [D.ok] using h)
      simp only [D.py, PyData.canLay0, PyData.depth]
      exact ⟨h1, by omega⟩
    | kls ds =>
      obtain ⟨h1, h2⟩ := go ds (by simpa only [D.ok] using h)
      simp only [D.py, PyData.canLay0, PyData.depth]
      exact ⟨h1, by omega⟩
    | _ => simp_all [D.ok, D.py, PyData.canLay0, PyData.depth]
section
variable {K : PySem.W.Frag} {ρ : List Addr} {H : Hp}
mutual
theorem rep_dp : ∀ (d : D) (v : V), d.noref = true → Rep K ρ H d v → Dp K H v d.py
  | .non, v, _, h => by simp only [Rep] at h; subst h; simp only [D.py]; exact .non
  | .bl b, v, _, h => by simp only [Rep] at h; subst h; simp only [D.py]; exact .bl b
  | .int b, v, _, h => by simp only [Rep] at h; subst h; simp only [D.py]; exact .int b
  | .str b, v, _, h => by simp only [Rep] at h; subst h; simp only [D.py]; exact .str b
  | .tup ds, v, n, h => by
    simp only [Rep] at h
    obtain ⟨a, xs, rfl, h2, h3⟩ := h
    simp only [D.py]
    exact .tup h2.seq (reps_dp ds xs (by simpa only [D.noref] using n) h3)
  | .lst ds, v, n, h => by
    simp only [Rep] at h
    obtain ⟨a, xs, o, rfl, h2, h3⟩ := h
    simp only [D.py]
    exact .lst (.inl (.inr ⟨o, h2⟩)) (reps_dp ds xs (by simpa only [D.noref] using n) h3)
  | .kls ds, v, n, h => by
    simp only [Rep] at h
    obtain ⟨a, xs, rfl, h2, h3⟩ := h
    simp only [D.py]
    exact .lst h2.seq (reps_dp ds xs (by simpa only [D.noref] using n) h3)
  | .ref k, v, n, _ => by simp [D.noref] at n
theorem reps_dp : ∀ (ds : List D) (vs : List V), D.norefs ds = true → Reps K ρ H ds vs → DpAll K H vs (D.pys ds)
  | [], _, _, h => by simp only [Reps] at h; subst h; simp only [D.pys]; exact .nil
  | d :: ds, _, n, h => by
    simp only [Reps] at h
    obtain ⟨v, r, rfl, h2, h3⟩ := h
    simp only [D.norefs, Bool.and_eq_true] at n
    simp only [D.pys]
    exact .cons (rep_dp d v n.1 h2) (reps_dp ds r n.2 h3)
end
end
/-- what stands there, as a tree -/
def pd (δ : Sl) (μ : Mu) : P → Option D
  | .val (.ref n) => match μ[n]? with
    | some (.lst ds) => some (.lst ds)
    | _ => none
  | .val d => some d
  | .own _ ds => some (.lst ds)
  | p => (lget δ μ p).map D.lst
/-- a list of trees that the def reads: its data -/
theorem pd_ok {K : PySem.W.Frag} {ρ : List Addr} {μ : Mu} {δ : Sl} {σ : L2.St} {H : Hp} (h : Hold K ρ μ δ σ H) {p : P} {x : V} {d : D} (r : PR K ρ H p x) (e : pd δ μ p = some d) (n : d.noref = true) : Dp K H x d.py := by
  have viaL : ∀ ds, lget δ μ p = some ds → d = .lst ds → Dp K H x d.py := fun ds q z => by
    subst z
    obtain ⟨a, xs, rfl, h2, h3⟩ := lget_ok h r q
    simp only [D.py]
    exact .lst h2 (reps_dp ds xs (by simpa only [D.noref] using n) h3)
  cases p with
  | val t =>
    cases t with
    | ref k =>
      simp only [pd] at e
      split at e
      · rename_i ds q
        cases e
        exact viaL ds (by simp only [lget, q]) rfl
      · cases e
    | _ =>
      simp only [pd] at e
      cases e
      exact rep_dp (ρ := ρ) _ _ n r
  | own a ds =>
    simp only [pd] at e
    cases e
    exact viaL ds (by simp only [lget]) rfl
  | bor a pl =>
    simp only [pd] at e
    cases q : lget δ μ (.bor a pl) with
    | none => rw [q] at e; cases e
    | some ds =>
      rw [q] at e
      cases e
      exact viaL ds q rfl
/-! ### ==, != -/
def rEqN (K : PySem.W.Frag) : R2 := fun x y H Q => rEq x y H Q ∨ rEqD K x y H Q
def rNeN (K : PySem.W.Frag) : R2 := fun x y H Q => rNe x y H Q ∨ rNeD K x y H Q
def eqM (neg : Bool) : M2 := fun p q δ μ C => match p, q with
  | .val (.str a), .val (.str b) => C (.val (.bl (if neg then !(a == b) else a == b))) μ
  | p, q => match pd δ μ p, pd δ μ q with
    | some a, some b => (a.ok 64 = true ∧ b.ok 64 = true) ∧ C (.val (.bl (if neg then !(D.eqb a b) else D.eqb a b))) μ
    | _, _ => False
theorem eq_core {K : PySem.W.Frag} {ρ : List Addr} {μ : Mu} {δ : Sl} {σ : L2.St} {H : Hp} {p q : P} {x y : V} {neg : Bool} {C : P → Mu → Prop} {Q : VK} (ho : Hold K ρ μ δ σ H) (rp : PR K ρ H p x) (rq : PR K ρ H q y) (c : eqM neg p q δ μ C)
    (hC : ∀ p' μ', C p' μ' → ∀ ρ' H' v, Evo K (footM ρ μ) ρ H ρ' μ' H' (footP p') → PR K ρ' H' p' v → Q v H') :
    (∃ a b : Str, x = .str a ∧ y = .str b ∧ Q (.bl (if neg then !(a == b) else a == b)) H) ∨ ∃ d e, Dp K H x d ∧ Dp K H y e ∧ SeqAt.shaped d = true ∧ SeqAt.shaped e = true ∧ Q (.bl (if neg then !PyData.eqv d e else PyData.eqv d e)) H := by
  unfold eqM at c
  split at c
  · exact .inl ⟨_, _, pr_str rp, pr_str rq, hC _ _ c ρ H _ (ho.val fun _ => rfl) (by simp only [PR, Rep])⟩
  · split at c
    · rename_i a b h1 h2
      obtain ⟨⟨c1, c2⟩, c3⟩ := c
      have n1 := D.ok_noref _ _ c1
      have n2 := D.ok_noref _ _ c2
      have l1 := D.ok_lay _ _ c1
      have l2 := D.ok_lay _ _ c2
      refine .inr ⟨a.py, b.py, pd_ok ho rp h1 n1, pd_ok ho rq h2 n2, ?_, ?_, ?_⟩
      · unfold SeqAt.shaped
        rw [l1.1, decide_eq_true l1.2]
        rfl
      · unfold SeqAt.shaped
        rw [l2.1, decide_eq_true l2.2]
        rfl
      · rw [D.eqv_py a b n1 n2]
        exact hC _ _ c3 ρ H _ (ho.val fun _ => rfl) (by simp only [PR, Rep])
    · exact c.elim
theorem br_eq {K : PySem.W.Frag} : Br2 K (rEqN K) (eqM false) := by
  intro ρ μ δ σ H p q x y C Q ho rp rq ap c hC
  rcases eq_core ho rp rq c hC with ⟨a, b, rfl, rfl, h⟩ | ⟨d, e, h1, h2, h3, h4, h5⟩
  · refine .inl ⟨rfl, ?_⟩
    rw [show decide (V.str a = V.str b) = (a == b) from dec_str]
    exact h
  · exact .inr ⟨d, e, h1, h2, h3, h4, h5⟩
theorem br_ne {K : PySem.W.Frag} : Br2 K (rNeN K) (eqM true) := by
  intro ρ μ δ σ H p q x y C Q ho rp rq ap c hC
  rcases eq_core ho rp rq c hC with ⟨a, b, rfl, rfl, h⟩ | ⟨d, e, h1, h2, h3, h4, h5⟩
  · refine .inl ⟨rfl, ?_⟩
    rw [show decide (V.str a = V.str b) = (a == b) from dec_str]
    exact h
  · exact .inr ⟨d, e, h1, h2, h3, h4, h5⟩
section
variable {X : Cx} {W : WX} {pos : Pos} {a b : Expr} {fa fb : FE}
theorem e_eq (hu : X.A.units + 64 < cLine) (ha : EF X W a fa) (hb : EF X W b fb) : EF X W (.Compare a [.Eq] [b] pos) (eOp2 (eqM false) fa fb) := e_cmp (op_eq.or (op_eqD hu)) br_eq ha hb (nomark b)
theorem e_ne (hu : X.A.units + 64 < cLine) (ha : EF X W a fa) (hb : EF X W b fb) : EF X W (.Compare a [.NotEq] [b] pos) (eOp2 (eqM true) fa fb) := e_cmp (op_ne.or (op_neD hu)) br_ne ha hb (nomark b)
end
end NT

/-! NT: truth, tests, and, or, not, conditional expressions; rows of arguments; displays; subscripts; built-ins that are called. -/
namespace NT
open PySem PySem.Spec PyProof.Rows L2

section
variable {K : PySem.W.Frag} {W : WX} {ρ ρ1 ρ2 : List Addr} {μ μ1 μ2 : Mu} {δ δ1 : Sl} {σ σ1 : L2.St} {H H1 H2 : Hp} {F : Addr → Nat} {E : CX}
/-- behind an expression: the same state, with what it gave -/
theorem Evo.f0 {B : Addr → Nat} {p : P} (e : Evo K B ρ H ρ1 μ1 H1 (footP p)) : Evo K B ρ H ρ1 μ1 H1 F0 := e.drop
end
/-! ### tests -/
/-- a value's truth -/
def truM (p : P) (δ : Sl) (μ : Mu) (C : Bool → Prop) : Prop := match p with
  | .val .non => C false
  | .val (.bl b) => C b
  | .val (.int i) => C (i != 0)
  | .val (.str s) => s.length ≤ sizeLine ∧ C ((s.length : Int) != 0)
  | .val (.tup ds) => C (!ds.isEmpty)
  | p => match p, lget δ μ p with
    | _, some ds => C (!ds.isEmpty)
    | .val (.ref n), none => match μ[n]? with
      | some (.dic kvs) => C (!kvs.isEmpty)
      | _ => False
    | _, none => False
theorem reps_empty {K : PySem.W.Frag} {ρ : List Addr} {H : Hp} {ds : List D} {xs : List V} (h : Reps K ρ H ds xs) : (!ds.isEmpty) = !xs.isEmpty := by
  cases ds with
  | nil => simp only [Reps] at h; subst h; rfl
  | cons d ds => simp only [Reps] at h; obtain ⟨v, r, rfl, _⟩ := h; rfl
theorem kv_empty {κ : Type} {K : PySem.W.Frag} {ρ : List Addr} {H : Hp} {ds : List (κ × D)} {xs : List (κ × V)} (h : KvR K ρ H ds xs) : (!ds.isEmpty) = !xs.isEmpty := by
  cases ds with
  | nil => have h' : xs = [] := h; subst h'; rfl
  | cons d ds => obtain ⟨k, d⟩ := d; obtain ⟨v, r, rfl, _⟩ := h; rfl
theorem truM_ok {K : PySem.W.Frag} {ρ : List Addr} {μ : Mu} {δ : Sl} {σ : L2.St} {H : Hp} {p : P} {x : V} {C : Bool → Prop} (ho : Hold K ρ μ δ σ H) (r : PR K ρ H p x) (c : truM p δ μ C) : ∃ k, TruV K x H k ∧ C k := by
  unfold truM at c
  split at c
  · rw [pr_non r]; exact ⟨false, rfl, c⟩
  · rw [pr_bl r]; exact ⟨_, rfl, c⟩
  · rw [pr_int r]; exact ⟨_, rfl, c⟩
  · rw [pr_str r]; exact ⟨_, ⟨c.1, rfl⟩, c.2⟩
  · obtain ⟨a, xs, rfl, e2, e3⟩ := pr_tup r
    exact ⟨_, .inr (.inl ⟨xs, e2.seq, reps_empty e3⟩), c⟩
  · split at c
    · rename_i ds q
      obtain ⟨a, xs, rfl, e2, e3⟩ := lget_ok ho r q
      exact ⟨_, .inl ⟨xs, e2, reps_empty e3⟩, c⟩
    · split at c
      · rename_i kvs q
        simp only [PR, Rep] at r
        obtain ⟨a, rfl, e2⟩ := r
        obtain ⟨b, e3, ks, e4, e5⟩ := ho.sm.obj _ _ q
        rw [e2] at e3
        cases e3
        exact ⟨_, .inr (.inr ⟨ks, e4, kv_empty e5⟩), c⟩
      · exact c.elim
    · exact c.elim
def tTru (f : FE) : FT := fun δ μ C E => f δ μ (fun p μ1 => truM p δ μ1 fun k => C k μ1) E
def tBool (f : FE) : FT := fun δ μ C E => f δ μ (fun p μ1 => match p with | .val (.bl b) => C b μ1 | _ => False) E
def tAnd2 (a b : FT) : FT := fun δ μ C E => a δ μ (fun k μ1 => if k = true then b δ μ1 C E else C false μ1) E
def tOr2 (a b : FT) : FT := fun δ μ C E => a δ μ (fun k μ1 => if k = true then C true μ1 else b δ μ1 C E) E
def tNot1 (a : FT) : FT := fun δ μ C E => a δ μ (fun k μ1 => C (!k) μ1) E
def eAnd2 (a b : FE) : FE := fun δ μ C E => a δ μ (fun p μ1 => match p with | .val (.bl k) => (if k = true then b δ μ1 C E else C (.val (.bl false)) μ1) | _ => False) E
def eOr2 (a b : FE) : FE := fun δ μ C E => a δ μ (fun p μ1 => match p with | .val (.bl k) => (if k = true then C (.val (.bl true)) μ1 else b δ μ1 C E) | _ => False) E
def eNot1 (a : FE) : FE := fun δ μ C E => a δ μ (fun p μ1 => match p with | .val (.bl k) => C (.val (.bl (!k))) μ1 | _ => False) E
def eIf (t : FT) (a b : FE) : FE := fun δ μ C E => t δ μ (fun k μ1 => if k = true then a δ μ1 C E else b δ μ1 C E) E
section
variable {X : Cx} {W : WX} {pos : Pos} {a b c : Expr} {rest : List Expr} {fa fb : FE} {ta tb : FT}
theorem t_tru (ha : EF X W a fa) (he : ∀ whole, isTrue a X.env whole = (do let v ← whole; standAt a.pos; holding [v] (truthy v)) := by intro _; rfl) : TF X W a (tTru fa) := pt_imp (pt_truth ha he) fun σ H Q ⟨ρ, μ, δ, C, E, ho, c, hC, hX⟩ =>
  ⟨ρ, μ, δ, _, E, ho, c, fun p μ1 c1 ρ1 H1 v1 e1 r1 => by
    obtain ⟨k, h1, h2⟩ := truM_ok (ho.after e1) r1 c1
    exact ⟨k, h1, hC k μ1 h2 ρ1 H1 e1.f0⟩, hX⟩
theorem lift_bool {K : PySem.W.Frag} {σ : L2.St} {H : Hp} {Q : Bool → Hp → Prop} (h : liftT K W (tBool fa) σ H Q) : liftE K W fa σ H fun x H1 => ∃ k, x = .bl k ∧ Q k H1 := by
  obtain ⟨ρ, μ, δ, C, E, ho, c, hC, hX⟩ := h
  refine ⟨ρ, μ, δ, _, E, ho, c, fun p μ1 c1 ρ1 H1 v1 e1 r1 => ?_, hX⟩
  split at c1
  · exact ⟨_, pr_bl r1, hC _ μ1 c1 ρ1 H1 e1.f0⟩
  · exact c1.elim
/-- a comparison as a test -/
theorem t_cmp {op : CmpOp} {r : R2} {m : M2} (ho : OpR X (compareOp op) r) (br : Br2 X.K r m) (ha : EF X W a fa) (hb : EF X W b fb) (hm : behindInMarks op b = false) : TF X W (.Compare a [op] [b] pos) (tBool (eOp2 m fa fb)) :=
  pt_imp (pt_cmpR ho ha hb hm) fun σ H Q h => op2_lift (fa := fa) (fb := fb) br (lift_bool h)
theorem t_eq (hu : X.A.units + 64 < cLine) (ha : EF X W a fa) (hb : EF X W b fb) : TF X W (.Compare a [.Eq] [b] pos) (tBool (eOp2 (eqM false) fa fb)) := t_cmp (op_eq.or (op_eqD hu)) br_eq ha hb (nomark b)
theorem t_ne (hu : X.A.units + 64 < cLine) (ha : EF X W a fa) (hb : EF X W b fb) : TF X W (.Compare a [.NotEq] [b] pos) (tBool (eOp2 (eqM true) fa fb)) := t_cmp (op_ne.or (op_neD hu)) br_ne ha hb (nomark b)
theorem t_lt (ha : EF X W a fa) (hb : EF X W b fb) : TF X W (.Compare a [.Lt] [b] pos) (tBool (eOp2 (cmpM fun i j => decide (i < j)) fa fb)) := t_cmp op_lt br_cmp ha hb (nomark b)
theorem t_le (ha : EF X W a fa) (hb : EF X W b fb) : TF X W (.Compare a [.LtE] [b] pos) (tBool (eOp2 (cmpM fun i j => decide (i ≤ j)) fa fb)) := t_cmp op_le br_cmp ha hb (nomark b)
theorem t_gt (ha : EF X W a fa) (hb : EF X W b fb) : TF X W (.Compare a [.Gt] [b] pos) (tBool (eOp2 (cmpM fun i j => decide (j < i)) fa fb)) := t_cmp op_gt br_cmp ha hb (nomark b)
theorem t_ge (ha : EF X W a fa) (hb : EF X W b fb) : TF X W (.Compare a [.GtE] [b] pos) (tBool (eOp2 (cmpM fun i j => decide (j ≤ i)) fa fb)) := t_cmp op_ge br_cmp ha hb (nomark b)
theorem t_isn (ha : EF X W a fa) (hb : EF X W b fb) : TF X W (.Compare a [.Is] [b] pos) (tBool (eOp2 (isnM false) fa fb)) := t_cmp op_isN br_isn ha hb (nomark b)
theorem t_notn (ha : EF X W a fa) (hb : EF X W b fb) : TF X W (.Compare a [.IsNot] [b] pos) (tBool (eOp2 (isnM true) fa fb)) := t_cmp op_notN br_notn ha hb (nomark b)
theorem t_not (ha : TF X W a ta) : TF X W (.UnaryOp .Not a pos) (tNot1 ta) := pt_imp (pt_not ha) fun σ H Q ⟨ρ, μ, δ, C, E, ho, c, hC, hX⟩ => ⟨ρ, μ, δ, _, E, ho, c, fun k μ1 c1 ρ1 H1 e1 => hC _ μ1 c1 ρ1 H1 e1, hX⟩
theorem w_and1 (ha : TF X W a ta) : WF X W (.BoolOp .And [a] pos) ta := pw_and1 ha
theorem w_or1 (ha : TF X W a ta) : WF X W (.BoolOp .Or [a] pos) ta := pw_or1 ha
theorem w_and (ha : TF X W a ta) (hb : WF X W (.BoolOp .And (b :: rest) pos) tb) : WF X W (.BoolOp .And (a :: b :: rest) pos) (tAnd2 ta tb) := pw_imp (pw_and ha hb) fun σ H Q ⟨ρ, μ, δ, C, E, ho, c, hC, hX⟩ =>
  ⟨ρ, μ, δ, _, E, ho, c, fun k μ1 c1 ρ1 H1 e1 => by
    cases k with
    | true => exact ⟨ρ1, μ1, δ, C, E, ho.after e1, c1, fun k μ2 c2 ρ2 H2 e2 => hC k μ2 c2 ρ2 H2 (e1.transM e2), hX.after e1⟩
    | false => exact hC _ μ1 c1 ρ1 H1 e1, hX⟩
theorem w_or (ha : TF X W a ta) (hb : WF X W (.BoolOp .Or (b :: rest) pos) tb) : WF X W (.BoolOp .Or (a :: b :: rest) pos) (tOr2 ta tb) := pw_imp (pw_or ha hb) fun σ H Q ⟨ρ, μ, δ, C, E, ho, c, hC, hX⟩ =>
  ⟨ρ, μ, δ, _, E, ho, c, fun k μ1 c1 ρ1 H1 e1 => by
    cases k with
    | false => exact ⟨ρ1, μ1, δ, C, E, ho.after e1, c1, fun k μ2 c2 ρ2 H2 e2 => hC k μ2 c2 ρ2 H2 (e1.transM e2), hX.after e1⟩
    | true => exact hC _ μ1 c1 ρ1 H1 e1, hX⟩
theorem t_w {e : Expr} (h : WF X W e ta) : TF X W e ta := PW.pt h
/-- as values -/
theorem e_one {op : BoolOp} (ha : EF X W a fa) : EF X W (.BoolOp op [a] pos) fa := pe_one ha
theorem e_and (ha : EF X W a fa) (hb : EF X W (.BoolOp .And (b :: rest) pos) fb) : EF X W (.BoolOp .And (a :: b :: rest) pos) (eAnd2 fa fb) := pe_imp (pe_and ha hb) fun σ H Q ⟨ρ, μ, δ, C, E, ho, c, hC, hX⟩ =>
  ⟨ρ, μ, δ, _, E, ho, c, fun p μ1 c1 ρ1 H1 v1 e1 r1 => by
    split at c1
    · rename_i k
      refine ⟨k, pr_bl r1, ?_⟩
      cases k with
      | true => exact ⟨ρ1, μ1, δ, C, E, ho.after e1, c1, fun q μ2 c2 ρ2 H2 v2 e2 r2 => hC q μ2 c2 ρ2 H2 v2 (e1.transM e2) r2, hX.after e1⟩
      | false => exact hC _ μ1 c1 ρ1 H1 _ e1 (by simp only [PR, Rep])
    · exact c1.elim, hX⟩
theorem e_or (ha : EF X W a fa) (hb : EF X W (.BoolOp .Or (b :: rest) pos) fb) : EF X W (.BoolOp .Or (a :: b :: rest) pos) (eOr2 fa fb) := pe_imp (pe_or ha hb) fun σ H Q ⟨ρ, μ, δ, C, E, ho, c, hC, hX⟩ =>
  ⟨ρ, μ, δ, _, E, ho, c, fun p μ1 c1 ρ1 H1 v1 e1 r1 => by
    split at c1
    · rename_i k
      refine ⟨k, pr_bl r1, ?_⟩
      cases k with
      | false => exact ⟨ρ1, μ1, δ, C, E, ho.after e1, c1, fun q μ2 c2 ρ2 H2 v2 e2 r2 => hC q μ2 c2 ρ2 H2 v2 (e1.transM e2) r2, hX.after e1⟩
      | true => exact hC _ μ1 c1 ρ1 H1 _ e1 (by simp only [PR, Rep])
    · exact c1.elim, hX⟩
theorem e_not (ha : EF X W a fa) : EF X W (.UnaryOp .Not a pos) (eNot1 fa) := pe_imp (pe_not ha) fun σ H Q ⟨ρ, μ, δ, C, E, ho, c, hC, hX⟩ =>
  ⟨ρ, μ, δ, _, E, ho, c, fun p μ1 c1 ρ1 H1 v1 e1 r1 => by
    split at c1
    · exact ⟨_, pr_bl r1, hC _ μ1 c1 ρ1 H1 _ e1 (by simp only [PR, Rep])⟩
    · exact c1.elim, hX⟩
theorem e_if (hc : TF X W c ta) (ha : EF X W a fa) (hb : EF X W b fb) : EF X W (.IfExp c a b pos) (eIf ta fa fb) := pe_imp (pe_ifExp hc ha hb) fun σ H Q ⟨ρ, μ, δ, C, E, ho, c, hC, hX⟩ =>
  ⟨ρ, μ, δ, _, E, ho, c, fun k μ1 c1 ρ1 H1 e1 => by
    cases k with
    | true => exact ⟨ρ1, μ1, δ, C, E, ho.after e1, c1, fun q μ2 c2 ρ2 H2 v2 e2 r2 => hC q μ2 c2 ρ2 H2 v2 (e1.transM e2) r2, hX.after e1⟩
    | false => exact ⟨ρ1, μ1, δ, C, E, ho.after e1, c1, fun q μ2 c2 ρ2 H2 v2 e2 r2 => hC q μ2 c2 ρ2 H2 v2 (e1.transM e2) r2, hX.after e1⟩, hX⟩
end
/-! ### a list that stands alone is locked for good -/
def tFrz (t : TE) : TE := fun σ H Q => t σ H fun v H1 => Q v H1 ∨ ∃ a xs, v = .ref a ∧ H1 a = some (.lst xs) ∧ ∀ o, Q v (upd H1 a (.frz o (.lst xs)))
theorem pe_frz {X : Cx} {e : Expr} {t : TE} (h : PE X e t) : PE X e (tFrz t) := by
  refine ⟨fun pins s σ H Q I q => ?_⟩
  refine thn (h.run pins s σ H _ I q) fun u s1 hh => ?_
  obtain ⟨v, H1, I1, r, q1 | ⟨a, xs, rfl, ha, q1⟩⟩ := hh
  · exact ⟨v, H1, I1, r, q1⟩
  · obtain ⟨o, I2⟩ := I1.lock ha trivial
    exact ⟨.ref a, _, I2, r, q1 o⟩
/-- a tree, whatever the place -/
def asD (p : P) (C : D → Prop) : Prop := match p with
  | .val d => C d
  | .own _ ds => C (.lst ds)
  | .bor _ _ => False
def eFrz (f : FE) : FE := fun δ μ C E => f δ μ (fun p μ1 => asD p fun d => C (.val d) μ1) E
section
variable {K : PySem.W.Frag} {W : WX} {ρ ρ1 ρ2 : List Addr} {μ μ1 μ2 : Mu} {δ δ1 : Sl} {σ σ1 : L2.St} {H H1 H2 : Hp} {F : Addr → Nat} {E : CX}
theorem frz_evo {B : Addr → Nat} {a : Addr} {ds : List D} {xs : List V} {o : Obj} (e : Evo K B ρ H ρ1 μ1 H1 (footP (.own a ds))) (h : H1 a = some (.lst xs)) (r : Reps K ρ1 H1 ds xs) :
    Evo K B ρ H ρ1 μ1 (upd H1 a (.frz o (.lst xs))) F0 ∧ Rep K ρ1 (upd H1 a (.frz o (.lst xs))) (.lst ds) (.ref a) := by
  have fa : footP (.own a ds) a = 1 := by simp [footP]
  have st : Stay H1 (upd H1 a (.frz o (.lst xs))) := fun b u q f => by
    rw [upd_ne]
    · exact q
    · intro z
      rw [z, h] at q
      cases q
      exact f
  have z : ∀ b, 1 ≤ footM ρ1 μ1 b → b ≠ a := fun b q w => by
    have := e.one b
    rw [w, fa] at this
    rw [w] at q
    omega
  refine ⟨⟨e.sm.stay st fun b u q w => by rw [upd_ne (z b q)]; exact w, e.ext, fun b u q w => ?_, fun x q => e.grow x (by have z : F0 x = 0 := rfl; omega), fun x => by have := e.one x; have z : F0 x = 0 := rfl; omega⟩, ?_⟩
  · have k := e.keep b u q w
    rw [upd_ne]
    · exact k
    · intro t
      rcases e.grow b (by rw [t, fa]; omega) with g | g
      · omega
      · rw [q] at g
        cases g
  · simp only [Rep]
    exact ⟨a, xs, o, rfl, upd_same, r.stay st (Ext.refl _)⟩
end
theorem e_frz {X : Cx} {W : WX} {e : Expr} {f : FE} (h : EF X W e f) : EF X W e (eFrz f) := pe_imp (pe_frz h) fun σ H Q ⟨ρ, μ, δ, C, E, ho, c, hC, hX⟩ =>
  ⟨ρ, μ, δ, _, E, ho, c, fun p μ1 c1 ρ1 H1 v1 e1 r1 => by
    cases p with
    | val d => exact .inl (hC _ μ1 c1 ρ1 H1 v1 e1 r1)
    | own a ds =>
      obtain ⟨rfl, xs, h1, h2⟩ := r1
      refine .inr ⟨a, xs, rfl, h1, fun o => ?_⟩
      obtain ⟨ev, rp⟩ := frz_evo (o := o) e1 h1 h2
      exact hC (.val (.lst ds)) μ1 c1 ρ1 _ _ ev rp
    | bor a pl => exact c1.elim, hX⟩
/-! ### rows of arguments -/
def aNil : FA := fun _ μ C _ => C [] μ
def aCons (f : FE) (r : FA) : FA := fun δ μ C E => f δ μ (fun p μ1 => asD p fun d => r δ μ1 (fun ds μ2 => C (d :: ds) μ2) E) E
theorem a_nil {X : Cx} {W : WX} : AF X W [] aNil := pa_imp pa_nil fun σ H Q ⟨ρ, μ, δ, C, E, ho, c, hC, hX⟩ => hC _ μ c ρ H [] ho.refl reps_nil
theorem a_cons {X : Cx} {W : WX} {e : Expr} {es : List Expr} {f : FE} {r : FA} (ha : EF X W e f) (hr : AF X W es r) (hs : starEach (e :: es) X.env = (false, eval e X.env) :: starEach es X.env := by rfl) : AF X W (e :: es) (aCons f r) :=
  pa_imp (pa_cons (e_frz ha) hr hs) fun σ H Q ⟨ρ, μ, δ, C, E, ho, c, hC, hX⟩ =>
  ⟨ρ, μ, δ, fun p μ1 => ∃ d, p = .val d ∧ r δ μ1 (fun ds μ2 => C (d :: ds) μ2) E, E, ho, by
    unfold eFrz
    unfold aCons at c
    have m : (fun (p : P) (μ1 : Mu) => asD p fun d => ∃ d', P.val d = .val d' ∧ r δ μ1 (fun ds μ2 => C (d' :: ds) μ2) E) = fun p μ1 => asD p fun d => r δ μ1 (fun ds μ2 => C (d :: ds) μ2) E := by
      funext p μ1
      cases p with
      | val d => exact propext ⟨fun ⟨d', e, h⟩ => by cases e; exact h, fun h => ⟨d, rfl, h⟩⟩
      | own a ds => exact propext ⟨fun ⟨d', e, h⟩ => by cases e; exact h, fun h => ⟨_, rfl, h⟩⟩
      | bor a pl => rfl
    rw [m]
    exact c, fun p μ1 ⟨d, hp, c1⟩ ρ1 H1 v1 e1 r1 => by
    subst hp
    refine ⟨ρ1, μ1, δ, _, E, ho.after e1, c1, fun ds μ2 c2 ρ2 H2 vs e2 r2 => ?_, hX.after e1⟩
    exact hC _ μ2 c2 ρ2 H2 _ (e1.transM e2) (reps_cons (Rep.stay (e2.stayM e1.sm) e2.ext d v1 r1) r2), hX⟩
/-! ### displays -/
def eTup (r : FA) : FE := fun δ μ C E => r δ μ (fun ds μ1 => ds.length ≤ sizeLine ∧ C (.val (.tup ds)) μ1) E
def eLst (r : FA) : FE := fun δ μ C E => r δ μ (fun ds μ1 => ds.length ≤ sizeLine ∧ ∀ a, C (.own a ds) μ1) E
/-- a list that is an object of the store -/
def eNew (r : FA) : FE := fun δ μ C E => r δ μ (fun ds μ1 => ds.length ≤ sizeLine ∧ C (.val (.ref μ1.length)) (μ1 ++ [.lst ds])) E
section
variable {X : Cx} {W : WX} {pos : Pos} {es : List Expr} {r : FA} {k : Nat}
theorem e_tup (h : AF X W es r) : EF X W (.Tuple es k pos) (eTup r) := pe_imp (pe_tup h) fun σ H Q ⟨ρ, μ, δ, C, E, ho, c, hC, hX⟩ =>
  ⟨ρ, μ, δ, _, E, ho, c, fun ds μ1 c1 ρ1 H1 vs e1 r1 => by
    refine ⟨by rw [← reps_len r1]; exact c1.1, fun p np => ?_⟩
    obtain ⟨ev, rp⟩ := (ho.after e1).newTup np r1
    exact hC _ μ1 c1.2 ρ1 _ _ (e1.transM ev) rp, hX⟩
theorem e_lst (h : AF X W es r) : EF X W (.List es pos) (eLst r) := pe_imp (pe_lst h) fun σ H Q ⟨ρ, μ, δ, C, E, ho, c, hC, hX⟩ =>
  ⟨ρ, μ, δ, _, E, ho, c, fun ds μ1 c1 ρ1 H1 vs e1 r1 => by
    refine ⟨by rw [← reps_len r1]; exact c1.1, fun p np => ?_⟩
    obtain ⟨ev, rp⟩ := (ho.after e1).newList np r1
    exact hC _ μ1 (c1.2 p) ρ1 _ _ (e1.transM ev) rp, hX⟩
theorem e_new (h : AF X W es r) : EF X W (.List es pos) (eNew r) := pe_imp (pe_lst h) fun σ H Q ⟨ρ, μ, δ, C, E, ho, c, hC, hX⟩ =>
  ⟨ρ, μ, δ, _, E, ho, c, fun ds μ1 c1 ρ1 H1 vs e1 r1 => by
    refine ⟨by rw [← reps_len r1]; exact c1.1, fun p np => ?_⟩
    have h1 := ho.after e1
    have ev : Evo X.K (footM ρ1 μ1) ρ1 H1 (ρ1 ++ [p]) (μ1 ++ [.lst ds]) (upd H1 p (.lst vs)) F0 := Evo.push h1.sm h1.le np (fun _ => rfl) ⟨vs, upd_same, r1.stay (fun b u q _ => stay_new np b u q) (Ext.app _ _)⟩
    refine hC _ _ c1.2 _ _ _ (e1.transM ev) ?_
    simp only [PR, Rep]
    exact ⟨p, rfl, by rw [← h1.sm.len]; simp⟩, hX⟩
end
end NT

/-! NT: subscripts, slices, built-in functions of one or two values. -/
namespace NT
open PySem PySem.Spec PyProof.Rows L2

section
variable {K : PySem.W.Frag} {ρ : List Addr} {H : Hp}
theorem reps_atI {ds : List D} {vs : List V} {i : Int} {d : D} (h : Reps K ρ H ds vs) (e : atI ds i = some d) : ∃ v, atI vs i = some v ∧ Rep K ρ H d v := by
  unfold atI at e ⊢
  rw [← reps_len h]
  cases q : ixN ds.length i with
  | none => rw [q] at e; cases e
  | some j =>
    rw [q] at e
    exact reps_get h e
theorem reps_take : ∀ {ds : List D} {vs : List V} (n : Nat), Reps K ρ H ds vs → Reps K ρ H (ds.take n) (vs.take n)
  | _, _, 0, _ => by simpa using reps_nil
  | [], _, n + 1, h => by simp only [Reps] at h; subst h; simpa using reps_nil
  | d :: ds, _, n + 1, h => by
    simp only [Reps] at h
    obtain ⟨v, r, rfl, h2, h3⟩ := h
    simpa only [List.take_succ_cons] using reps_cons h2 (reps_take n h3)
theorem reps_drop : ∀ {ds : List D} {vs : List V} (n : Nat), Reps K ρ H ds vs → Reps K ρ H (ds.drop n) (vs.drop n)
  | _, _, 0, h => by simpa using h
  | [], _, n + 1, h => by simp only [Reps] at h; subst h; simpa using reps_nil
  | d :: ds, _, n + 1, h => by
    simp only [Reps] at h
    obtain ⟨v, r, rfl, h2, h3⟩ := h
    simpa only [List.drop_succ_cons] using reps_drop n h3
theorem reps_set : ∀ {ds : List D} {vs : List V} (n : Nat) {d : D} {v : V}, Reps K ρ H ds vs → Rep K ρ H d v → Reps K ρ H (ds.set n d) (vs.set n v)
  | [], _, _, _, _, h, _ => by simp only [Reps] at h; subst h; simpa using reps_nil
  | d :: ds, _, 0, _, _, h, q => by
    simp only [Reps] at h
    obtain ⟨v, r, rfl, h2, h3⟩ := h
    simpa only [List.set_cons_zero] using reps_cons q h3
  | d :: ds, _, n + 1, _, _, h, q => by
    simp only [Reps] at h
    obtain ⟨v, r, rfl, h2, h3⟩ := h
    simpa only [List.set_cons_succ] using reps_cons h2 (reps_set n h3 q)
end
/-! ### a[i] -/
def ixM : M2 := fun p q δ μ C => match p, q with
  | .val (.tup ds), .val (.int i) => (match atI ds i with | some d => C (.val d) μ | none => False)
  | .val (.str z), .val (.int i) => z.length ≤ sizeLine ∧ (match atI z.cps.toList i with | some c => C (.val (.str ⟨#[c]⟩)) μ | none => False)
  | p, .val (.int i) => (match lget δ μ p with
    | some ds => (match atI ds i with | some d => C (.val d) μ | none => False)
    | none => False)
  | _, _ => False
theorem br_ix {K : PySem.W.Frag} : Br2 K (rIx K) ixM := by
  intro ρ μ δ σ H p q x y C Q ho rp rq ap c hC
  unfold ixM at c
  split at c
  · split at c
    · rename_i d e
      obtain ⟨a, xs, e1, e2, e3⟩ := pr_tup rp
      obtain ⟨v, h1, h2⟩ := reps_atI e3 e
      exact .inr (.inl ⟨a, xs, _, v, e1, pr_int rq, e2.seq, h1, hC _ _ c ρ H v (ho.val fun _ => rfl) h2⟩)
    · exact c.elim
  · obtain ⟨c1, c⟩ := c
    split at c
    · rename_i k e
      exact .inr (.inr ⟨_, _, k, pr_str rp, pr_int rq, c1, e, hC _ _ c ρ H _ (ho.val fun _ => rfl) (by simp only [PR, Rep])⟩)
    · exact c.elim
  · split at c
    · rename_i ds h
      split at c
      · rename_i d e
        obtain ⟨a, xs, e1, e2, e3⟩ := lget_ok ho rp h
        obtain ⟨v, h1, h2⟩ := reps_atI e3 e
        exact .inl ⟨a, xs, _, v, e1, pr_int rq, e2, h1, hC _ _ c ρ H v (ho.val fun _ => rfl) h2⟩
      · exact c.elim
    · exact c.elim
  · exact c.elim
theorem e_ix {X : Cx} {W : WX} {pos : Pos} {a b : Expr} {fa fb : FE} (ha : EF X W a fa) (hb : EF X W b fb) (hs : PlainIx b := by intro _ _; rfl) : EF X W (.Subscript a b pos) (eOp2 ixM fa fb) := pe_imp (pe_ix ix_seq ha hb hs) fun _ _ _ h => op2_lift br_ix h
/-! ### a[i:j] -/
abbrev FO := Sl → Mu → (Option Int → Mu → Prop) → CX → Prop
def liftO (K : PySem.W.Frag) (W : WX) (f : FO) : TO := fun σ H Q => ∃ ρ μ δ C E, Hold K ρ μ δ σ H ∧ f δ μ C E ∧ (∀ b μ', C b μ' → ∀ ρ' H', Evo K (footM ρ μ) ρ H ρ' μ' H' F0 → Q b H') ∧ XOut K W ρ μ σ H E
def OF (X : Cx) (W : WX) (e : Option Expr) (f : FO) : Prop := PO X e (liftO X.K W f)
def oNone : FO := fun _ μ C _ => C none μ
def oSome (f : FE) : FO := fun δ μ C E => f δ μ (fun p μ1 => match p with | .val (.int i) => C (some i) μ1 | _ => False) E
theorem po_imp {X : Cx} {e : Option Expr} {t t' : TO} (h : PO X e t) (i : ∀ σ H Q, t' σ H Q → t σ H Q) : PO X e t' := ⟨fun pins s σ H Q I q => h.run pins s σ H Q I (i σ H Q q)⟩
theorem o_none {X : Cx} {W : WX} : OF X W none oNone := po_imp po_none fun σ H Q ⟨ρ, μ, δ, C, E, ho, c, hC, hX⟩ => hC _ μ c ρ H ho.refl
theorem o_some {X : Cx} {W : WX} {e : Expr} {f : FE} (h : EF X W e f) : OF X W (some e) (oSome f) := po_imp (po_some h) fun σ H Q ⟨ρ, μ, δ, C, E, ho, c, hC, hX⟩ =>
  ⟨ρ, μ, δ, _, E, ho, c, fun p μ1 c1 ρ1 H1 v1 e1 r1 => by
    split at c1
    · exact ⟨_, pr_int r1, hC _ μ1 c1 ρ1 H1 e1.f0⟩
    · exact c1.elim, hX⟩
def cutL {α : Type} (xs : List α) (lo hi : Option Int) : List α := (xs.drop (HT.sIx xs.length 0 lo)).take (HT.sIx xs.length xs.length hi - HT.sIx xs.length 0 lo)
def slM (p : P) (lo hi : Option Int) (δ : Sl) (μ : Mu) (C : P → Mu → Prop) : Prop := match p with
  | .val (.tup ds) => C (.val (.tup (cutL ds lo hi))) μ
  | .val (.str z) => z.length ≤ sizeLine ∧ C (.val (.str (cutS z lo hi))) μ
  | p => match lget δ μ p with
    | some ds => ∀ a, C (.own a (cutL ds lo hi)) μ
    | none => False
def eSl (f : FE) (lo hi : FO) : FE := fun δ μ C E => f δ μ (fun p μ1 => lo δ μ1 (fun l μ2 => hi δ μ2 (fun h μ3 => slM p l h δ μ3 C) E) E) E
def rSlN (K : PySem.W.Frag) : V → Option Int → Option Int → Hp → VK → Prop := fun x lo hi H Q => rSlL K x lo hi H Q ∨ rSlA K x lo hi H Q ∨ rSlS x lo hi H Q
theorem reps_cut {K : PySem.W.Frag} {ρ : List Addr} {H : Hp} {ds : List D} {vs : List V} (h : Reps K ρ H ds vs) (lo hi : Option Int) : Reps K ρ H (cutL ds lo hi) (cutV vs lo hi) := by
  unfold cutL cutV
  rw [reps_len h]
  exact reps_take _ (reps_drop _ h)
theorem cut_whole {α : Type} {xs : List α} {lo hi : Option Int} (h : HT.sIx xs.length 0 lo = 0 ∧ HT.sIx xs.length xs.length hi = xs.length) : cutL xs lo hi = xs := by
  unfold cutL
  rw [h.1, h.2]
  simp
theorem sl_core {K : PySem.W.Frag} {ρ : List Addr} {μ : Mu} {δ : Sl} {σ : L2.St} {H : Hp} {p : P} {x : V} {lo hi : Option Int} {C : P → Mu → Prop} {Q : VK} (ho : Hold K ρ μ δ σ H) (rp : PR K ρ H p x) (c : slM p lo hi δ μ C)
    (hC : ∀ p' μ', C p' μ' → ∀ ρ' H' v, Evo K (footM ρ μ) ρ H ρ' μ' H' (footP p') → PR K ρ' H' p' v → Q v H') : rSlN K x lo hi H Q := by
  unfold slM at c
  split at c
  · rename_i ds
    obtain ⟨a, xs, e1, e2, e3⟩ := pr_tup rp
    have l := reps_len e3
    refine .inr (.inl ⟨a, xs, e1, e2.seq, fun hw => ?_, fun hw q nq => ?_⟩)
    · rw [cut_whole (by rw [l]; exact hw)] at c
      exact hC _ _ c ρ H _ (ho.val fun _ => rfl) (by rw [← e1]; exact rp)
    · obtain ⟨ev, rp'⟩ := ho.newTup nq (reps_cut e3 lo hi)
      exact hC _ _ c _ _ _ ev rp'
  · exact .inr (.inr ⟨_, pr_str rp, c.1, hC _ _ c.2 ρ H _ (ho.val fun _ => rfl) (by simp only [PR, Rep])⟩)
  · split at c
    · rename_i ds h
      obtain ⟨a, xs, e1, e2, e3⟩ := lget_ok ho rp h
      refine .inl ⟨a, xs, e1, e2, fun q nq => ?_⟩
      obtain ⟨ev, rp'⟩ := ho.newList nq (reps_cut e3 lo hi)
      exact hC _ _ (c q) _ _ _ ev rp'
    · exact c.elim
theorem e_sl {X : Cx} {W : WX} {pos p2 : Pos} {e : Expr} {lo hi : Option Expr} {f : FE} {fl fh : FO} (he : EF X W e f) (hl : OF X W lo fl) (hh : OF X W hi fh) : EF X W (.Subscript e (.Slice lo hi none p2) pos) (eSl f fl fh) :=
  pe_imp (pe_slice (sl_list.or (sl_tupA.or sl_str)) he hl hh) fun σ H Q ⟨ρ, μ, δ, C, E, ho, c, hC, hX⟩ =>
  ⟨ρ, μ, δ, _, E, ho, c, fun p μ1 c1 ρ1 H1 v1 e1 r1 =>
    ⟨ρ1, μ1, δ, _, E, ho.after e1, c1, fun l μ2 c2 ρ2 H2 e2 =>
      ⟨ρ2, μ2, δ, _, E, (ho.after e1).after e2, c2, fun h μ3 c3 ρ3 H3 e3 => by
        have e23 := e2.transM e3
        obtain ⟨rp, _⟩ := e1.wait r1 e23
        exact sl_core (((ho.after e1).after e2).after e3) rp c3 fun p' μ' c4 ρ4 H4 v4 e4 r4 => hC p' μ' c4 ρ4 H4 v4 ((e1.transM e23).transM e4) r4, (hX.after e1).after e2⟩, hX.after e1⟩, hX⟩
/-! ### built-in functions of one value, of two -/
section
variable {X : Cx} {W : WX} {p pos : Pos} {x : Str} {id T : String} {a b : Expr} {fa fb : FE} {r : List V → Hp → VK → Prop} {m : M1} {m2 : M2}
theorem e_callB (hc : CallR X (.builtin id) r) (br : Br1 X.K (fun x H Q => r [x] H Q) m) (hm : X.mg x = none) (hv : bootBuiltins x = some (.builtin id)) (ha : EF X W a fa) (hg : Gl X x := by rfl) (hn : x ≠ "__name__" := by decide) (hdb : (x == ("__debug__" : Str)) = false := by decide)
    (he : starEach [a] X.env = (false, eval a X.env) :: starEach [] X.env := by rfl) (hpl : (backTo pos (starEach [] X.env)).any (·.1) = false := by rfl) : EF X W (.Call (.Name x p) [a] [] pos) (eOp1 m fa) :=
  pe_imp (pe_callB hc hg hm hv (pa_cons ha pa_nil he) hn hdb he hpl) fun σ H Q h => op1_lift (r := fun x H Q => r [x] H Q) br h
theorem e_callT (hc : CallR X (.type T) r) (br : Br1 X.K (fun x H Q => r [x] H Q) m) (hm : X.mg x = none) (hv : bootBuiltins x = some (.type T)) (ha : EF X W a fa) (hg : Gl X x := by rfl) (hn : x ≠ "__name__" := by decide) (hdb : (x == ("__debug__" : Str)) = false := by decide)
    (he : starEach [a] X.env = (false, eval a X.env) :: starEach [] X.env := by rfl) (hpl : (backTo pos (starEach [] X.env)).any (·.1) = false := by rfl) : EF X W (.Call (.Name x p) [a] [] pos) (eOp1 m fa) :=
  pe_imp (pe_callTy hc hg hm hv (pa_cons ha pa_nil he) hn hdb he hpl) fun σ H Q h => op1_lift (r := fun x H Q => r [x] H Q) br h
theorem e_callB2 (hc : CallR X (.builtin id) r) (br : Br2 X.K (fun x y H Q => r [x, y] H Q) m2) (hm : X.mg x = none) (hv : bootBuiltins x = some (.builtin id)) (ha : EF X W a fa) (hb : EF X W b fb) (hg : Gl X x := by rfl) (hn : x ≠ "__name__" := by decide) (hdb : (x == ("__debug__" : Str)) = false := by decide)
    (he : starEach [a, b] X.env = (false, eval a X.env) :: starEach [b] X.env := by rfl) (he2 : starEach [b] X.env = (false, eval b X.env) :: starEach [] X.env := by rfl) (hpl : (backTo pos (starEach [b] X.env)).any (·.1) = false := by rfl) : EF X W (.Call (.Name x p) [a, b] [] pos) (eOp2 m2 fa fb) :=
  pe_imp (pe_callB hc hg hm hv (pa_cons ha (pa_cons hb pa_nil he2) he) hn hdb he hpl) fun σ H Q h => op2_lift (r := fun x y H Q => r [x, y] H Q) br h
end
def lenM : M1 := fun p δ μ C => match p with
  | .val (.str z) => z.length ≤ sizeLine ∧ C (.val (.int z.length)) μ
  | .val (.tup ds) => C (.val (.int ds.length)) μ
  | p => match lget δ μ p with
    | some ds => C (.val (.int ds.length)) μ
    | none => False
theorem br_len {K : PySem.W.Frag} : Br1 K (fun x H Q => ∃ y n, [x] = [y] ∧ LenV K y H n ∧ Q (.int n) H) lenM := by
  intro ρ μ δ σ H p x C Q ho rp ap c hC
  unfold lenM at c
  split at c
  · exact ⟨x, _, rfl, by rw [pr_str rp]; exact ⟨c.1, rfl⟩, hC _ _ c.2 ρ H _ (ho.val fun _ => rfl) (by simp only [PR, Rep])⟩
  · obtain ⟨a, xs, rfl, e2, e3⟩ := pr_tup rp
    exact ⟨_, _, rfl, .inr ⟨xs, e2.seq, (reps_len e3)⟩, hC _ _ c ρ H _ (ho.val fun _ => rfl) (by simp only [PR, Rep])⟩
  · split at c
    · rename_i ds h
      obtain ⟨a, xs, rfl, e2, e3⟩ := lget_ok ho rp h
      exact ⟨_, _, rfl, .inl ⟨xs, e2, (reps_len e3)⟩, hC _ _ c ρ H _ (ho.val fun _ => rfl) (by simp only [PR, Rep])⟩
    · exact c.elim
def absM : M1 := fun p _ μ C => match p with
  | .val (.int i) => C (.val (.int (if i < 0 then -i else i))) μ
  | _ => False
theorem br_abs {K : PySem.W.Frag} : Br1 K (fun x H Q => ∃ i, [x] = [V.int i] ∧ Q (.int (if i < 0 then -i else i)) H) absM := by
  intro ρ μ δ σ H p x C Q ho rp ap c hC
  unfold absM at c
  split at c
  · exact ⟨_, by rw [pr_int rp], hC _ _ c ρ H _ (ho.val fun _ => rfl) (by simp only [PR, Rep])⟩
  · exact c.elim
def toIntM : M1 := fun p _ μ C => match p with
  | .val (.int i) => C (.val (.int i)) μ
  | .val (.bl b) => C (.val (.int (if b then 1 else 0))) μ
  | _ => False
theorem br_toInt {K : PySem.W.Frag} : Br1 K (fun x H Q => (∃ i, [x] = [V.int i] ∧ Q (.int i) H) ∨ ∃ k, [x] = [V.bl k] ∧ Q (.int (if k then 1 else 0)) H) toIntM := by
  intro ρ μ δ σ H p x C Q ho rp ap c hC
  unfold toIntM at c
  split at c
  · exact .inl ⟨_, by rw [pr_int rp], hC _ _ c ρ H _ (ho.val fun _ => rfl) (by simp only [PR, Rep])⟩
  · exact .inr ⟨_, by rw [pr_bl rp], hC _ _ c ρ H _ (ho.val fun _ => rfl) (by simp only [PR, Rep])⟩
  · exact c.elim
def max2M : M2 := fun p q _ μ C => match p, q with
  | .val (.int i), .val (.int j) => C (.val (.int (if j > i then j else i))) μ
  | _, _ => False
def min2M : M2 := fun p q _ μ C => match p, q with
  | .val (.int i), .val (.int j) => C (.val (.int (if j < i then j else i))) μ
  | _, _ => False
theorem br_max2 {K : PySem.W.Frag} : Br2 K (fun x y H Q => ∃ i j, [x, y] = [V.int i, V.int j] ∧ Q (.int (if j > i then j else i)) H) max2M := by
  intro ρ μ δ σ H p q x y C Q ho rp rq ap c hC
  unfold max2M at c
  split at c
  · exact ⟨_, _, by rw [pr_int rp, pr_int rq], hC _ _ c ρ H _ (ho.val fun _ => rfl) (by simp only [PR, Rep])⟩
  · exact c.elim
theorem br_min2 {K : PySem.W.Frag} : Br2 K (fun x y H Q => ∃ i j, [x, y] = [V.int i, V.int j] ∧ Q (.int (if j < i then j else i)) H) min2M := by
  intro ρ μ δ σ H p q x y C Q ho rp rq ap c hC
  unfold min2M at c
  split at c
  · exact ⟨_, _, by rw [pr_int rp, pr_int rq], hC _ _ c ρ H _ (ho.val fun _ => rfl) (by simp only [PR, Rep])⟩
  · exact c.elim
/-- the ints of a row of trees -/
def intsOf : List D → Option (List Int)
  | [] => some []
  | .int i :: r => (intsOf r).map (i :: ·)
  | _ => none
theorem intsOf_map : ∀ ns : List Int, intsOf (ns.map D.int) = some ns
  | [] => rfl
  | n :: ns => by simp only [List.map_cons, intsOf, intsOf_map ns, Option.map_some]
theorem intsOf_ok {K : PySem.W.Frag} {ρ : List Addr} {H : Hp} : ∀ {ds : List D} {vs : List V} {ns : List Int}, Reps K ρ H ds vs → intsOf ds = some ns → vs = ns.map V.int
  | [], _, _, h, e => by
    simp only [Reps] at h
    subst h
    simp only [intsOf, Option.some.injEq] at e
    subst e
    rfl
  | d :: ds, _, ns, h, e => by
    simp only [Reps] at h
    obtain ⟨v, r, rfl, h2, h3⟩ := h
    cases d with
    | int i =>
      simp only [intsOf] at e
      cases q : intsOf ds with
      | none => rw [q] at e; cases e
      | some ms =>
        rw [q] at e
        simp only [Option.map_some, Option.some.injEq] at e
        subst e
        simp only [Rep] at h2
        rw [h2, intsOf_ok h3 q]
        rfl
    | _ => simp [intsOf] at e
def sumM : M1 := fun p δ μ C => match lget δ μ p with
  | some ds => (match intsOf ds with | some ns => C (.val (.int ns.sum)) μ | none => False)
  | none => False
theorem br_sum {K : PySem.W.Frag} : Br1 K (fun x H Q => rSum K [x] H Q) sumM := by
  intro ρ μ δ σ H p x C Q ho rp ap c hC
  unfold sumM at c
  split at c
  · rename_i ds h
    split at c
    · rename_i ns e
      obtain ⟨a, xs, rfl, e2, e3⟩ := lget_ok ho rp h
      rw [intsOf_ok e3 e] at e2
      exact ⟨a, ns, rfl, e2, hC _ _ c ρ H _ (ho.val fun _ => rfl) (by simp only [PR, Rep])⟩
    · exact c.elim
  · exact c.elim
/-- tuple(xs) -/
def tupM : M1 := fun p δ μ C => match p with
  | .val (.tup ds) => C (.val (.tup ds)) μ
  | p => match lget δ μ p with
    | some ds => C (.val (.tup ds)) μ
    | none => False
theorem br_tup {K : PySem.W.Frag} : Br1 K (fun x H Q => ∃ p ys, [x] = [V.ref p] ∧ ((SqL K H p ys ∧ ∀ l, H l = none → Q (.ref l) (upd H l (.tup ys))) ∨ (SqT K H p ys ∧ Q (.ref p) H))) tupM := by
  intro ρ μ δ σ H p x C Q ho rp ap c hC
  unfold tupM at c
  split at c
  · have rp' := rp
    obtain ⟨a, xs, rfl, e2, e3⟩ := pr_tup rp
    exact ⟨a, xs, rfl, .inr ⟨e2.seq, hC _ _ c ρ H _ (ho.val fun _ => rfl) rp'⟩⟩
  · split at c
    · rename_i ds h
      obtain ⟨a, xs, rfl, e2, e3⟩ := lget_ok ho rp h
      refine ⟨a, xs, rfl, .inl ⟨e2, fun q nq => ?_⟩⟩
      obtain ⟨ev, rp'⟩ := ho.newTup nq e3
      exact hC _ _ c _ _ _ ev rp'
    · exact c.elim
/-- list(xs) -/
def listM : M1 := fun p δ μ C => match p with
  | .val (.tup ds) => ∀ a, C (.own a ds) μ
  | p => match lget δ μ p with
    | some ds => ∀ a, C (.own a ds) μ
    | none => False
theorem br_list {K : PySem.W.Frag} : Br1 K (fun x H Q => ∃ p ys, [x] = [V.ref p] ∧ (SqL K H p ys ∨ SqT K H p ys) ∧ ∀ l, H l = none → Q (.ref l) (upd H l (.lst ys))) listM := by
  intro ρ μ δ σ H p x C Q ho rp ap c hC
  unfold listM at c
  split at c
  · obtain ⟨a, xs, rfl, e2, e3⟩ := pr_tup rp
    refine ⟨a, xs, rfl, .inr e2.seq, fun q nq => ?_⟩
    obtain ⟨ev, rp'⟩ := ho.newList nq e3
    exact hC _ _ (c q) _ _ _ ev rp'
  · split at c
    · rename_i ds h
      obtain ⟨a, xs, rfl, e2, e3⟩ := lget_ok ho rp h
      refine ⟨a, xs, rfl, .inl e2, fun q nq => ?_⟩
      obtain ⟨ev, rp'⟩ := ho.newList nq e3
      exact hC _ _ (c q) _ _ _ ev rp'
    · exact c.elim
/-! ### repr -/
/-- data whose text is not too long -/
def ReprOk (d : D) : Prop := d.ok 60 = true ∧ d.py.showable = true ∧ d.py.shown.length ≤ sizeLine
def rRepr (K : PySem.W.Frag) : List V → Hp → VK → Prop := fun xs H Q => (∃ i : Int, xs = [.int i] ∧ i.natAbs.log2 < 1920 ∧ Q (.str (toString i)) H) ∨
  ∃ a d, xs = [.ref a] ∧ Dp K H (.ref a) d ∧ d.canLay0 = true ∧ d.depth ≤ 60 ∧ d.showable = true ∧ d.shown.length ≤ sizeLine ∧ Q (.str d.shown) H
theorem call_reprN {X : Cx} (hu : X.A.units + 64 < cLine) (hg : X.A.guards = some []) : CallR X (.builtin "repr") (rRepr X.K) := by
  intro pins s σ H xs us Q I r h
  rcases h with h | ⟨a, d, rfl, h1, h2, h3, h4, h5, q⟩
  · exact SkE.call_repr_int pins s σ H xs us Q I r h
  · obtain ⟨u, rfl, ru⟩ := vals1 r
    obtain rfl : u = .ref a := ru
    obtain ⟨as, rd⟩ := Dp.reads I d (.ref a) (.ref a) h1 rfl
    exact repr_of_reads' rd h4 (PyData.noDict_hsm (PyData.hasDict_of_canLay d h2)) hg (by omega) (fun _ _ e => e) (fun h' u tk hk => ⟨.str d.shown, H, I.kept hk, ⟨_, rfl⟩, q⟩) h5
def reprM : M1 := fun p δ μ C => match p with
  | .val (.int i) => i.natAbs.log2 < 1920 ∧ C (.val (.str (toString i))) μ
  | p => match pd δ μ p with
    | some (.tup ds) => ReprOk (.tup ds) ∧ C (.val (.str (D.tup ds).py.shown)) μ
    | some (.lst ds) => ReprOk (.lst ds) ∧ C (.val (.str (D.lst ds).py.shown)) μ
    | _ => False
theorem br_repr {K : PySem.W.Frag} : Br1 K (fun x H Q => rRepr K [x] H Q) reprM := by
  intro ρ μ δ σ H p x C Q ho rp ap c hC
  have via : ∀ d a, pd δ μ p = some d → x = .ref a → ReprOk d → C (.val (.str d.py.shown)) μ → rRepr K [x] H Q := fun d a e ex ok c => by
    obtain ⟨o1, o2, o3⟩ := ok
    have dp := pd_ok ho rp e (D.ok_noref _ _ o1)
    subst ex
    have l := D.ok_lay _ _ o1
    exact .inr ⟨a, d.py, rfl, dp, l.1, l.2, o2, o3, hC _ _ c ρ H _ (ho.val fun _ => rfl) (by simp only [PR, Rep])⟩
  unfold reprM at c
  split at c
  · exact .inl ⟨_, by rw [pr_int rp], c.1, hC _ _ c.2 ρ H _ (ho.val fun _ => rfl) (by simp only [PR, Rep])⟩
  · split at c
    · rename_i ds e
      have dp := pd_ok ho rp e (D.ok_noref _ _ c.1.1)
      simp only [D.py] at dp
      cases dp with
      | tup h1 h2 => exact via _ _ e rfl c.1 c.2
    · rename_i ds e
      have dp := pd_ok ho rp e (D.ok_noref _ _ c.1.1)
      simp only [D.py] at dp
      cases dp with
      | lst h1 h2 => exact via _ _ e rfl c.1 c.2
    · exact c.elim
section
variable {X : Cx} {W : WX} {p pos : Pos} {a b : Expr} {fa fb : FE}
theorem e_len (hm : X.mg "len" = none) (ha : EF X W a fa) (hg : Gl X "len" := by rfl) (he : starEach [a] X.env = (false, eval a X.env) :: starEach [] X.env := by rfl) : EF X W (.Call (.Name "len" p) [a] [] pos) (eOp1 lenM fa) := e_callB call_len br_len hm (by decide +kernel) ha hg (by decide) (by decide) he
theorem e_abs (hm : X.mg "abs" = none) (ha : EF X W a fa) (hg : Gl X "abs" := by rfl) (he : starEach [a] X.env = (false, eval a X.env) :: starEach [] X.env := by rfl) : EF X W (.Call (.Name "abs" p) [a] [] pos) (eOp1 absM fa) := e_callB call_abs br_abs hm (by decide +kernel) ha hg (by decide) (by decide) he
theorem e_toInt (hm : X.mg "int" = none) (ha : EF X W a fa) (hg : Gl X "int" := by rfl) (he : starEach [a] X.env = (false, eval a X.env) :: starEach [] X.env := by rfl) : EF X W (.Call (.Name "int" p) [a] [] pos) (eOp1 toIntM fa) := e_callT call_int1 br_toInt hm (by decide +kernel) ha hg (by decide) (by decide) he
theorem e_sum (hc : X.calm = true) (hm : X.mg "sum" = none) (ha : EF X W a fa) (hg : Gl X "sum" := by rfl) (he : starEach [a] X.env = (false, eval a X.env) :: starEach [] X.env := by rfl) : EF X W (.Call (.Name "sum" p) [a] [] pos) (eOp1 sumM fa) := e_callB (cr_sum hc) br_sum hm (by decide +kernel) ha hg (by decide) (by decide) he
theorem e_tuple (hm : X.mg "tuple" = none) (ha : EF X W a fa) (hg : Gl X "tuple" := by rfl) (he : starEach [a] X.env = (false, eval a X.env) :: starEach [] X.env := by rfl) : EF X W (.Call (.Name "tuple" p) [a] [] pos) (eOp1 tupM fa) := e_callT call_tuple_of br_tup hm (by decide +kernel) ha hg (by decide) (by decide) he
theorem e_list (hm : X.mg "list" = none) (ha : EF X W a fa) (hg : Gl X "list" := by rfl) (he : starEach [a] X.env = (false, eval a X.env) :: starEach [] X.env := by rfl) : EF X W (.Call (.Name "list" p) [a] [] pos) (eOp1 listM fa) := e_callT call_list_of br_list hm (by decide +kernel) ha hg (by decide) (by decide) he
theorem e_repr (hu : X.A.units + 64 < cLine) (gu : X.A.guards = some []) (hm : X.mg "repr" = none) (ha : EF X W a fa) (hg : Gl X "repr" := by rfl) (he : starEach [a] X.env = (false, eval a X.env) :: starEach [] X.env := by rfl) : EF X W (.Call (.Name "repr" p) [a] [] pos) (eOp1 reprM fa) := e_callB (call_reprN hu gu) br_repr hm (by decide +kernel) ha hg (by decide) (by decide) he
theorem e_max2 (hc : X.calm = true) (hm : X.mg "max" = none) (ha : EF X W a fa) (hb : EF X W b fb) (hg : Gl X "max" := by rfl) (he : starEach [a, b] X.env = (false, eval a X.env) :: starEach [b] X.env := by rfl) (he2 : starEach [b] X.env = (false, eval b X.env) :: starEach [] X.env := by rfl) (hpl : (backTo pos (starEach [b] X.env)).any (·.1) = false := by rfl) : EF X W (.Call (.Name "max" p) [a, b] [] pos) (eOp2 max2M fa fb) := e_callB2 (call_max2 hc) br_max2 hm (by decide +kernel) ha hb hg (by decide) (by decide) he he2 hpl
theorem e_min2 (hc : X.calm = true) (hm : X.mg "min" = none) (ha : EF X W a fa) (hb : EF X W b fb) (hg : Gl X "min" := by rfl) (he : starEach [a, b] X.env = (false, eval a X.env) :: starEach [b] X.env := by rfl) (he2 : starEach [b] X.env = (false, eval b X.env) :: starEach [] X.env := by rfl) (hpl : (backTo pos (starEach [b] X.env)).any (·.1) = false := by rfl) : EF X W (.Call (.Name "min" p) [a, b] [] pos) (eOp2 min2M fa fb) := e_callB2 (call_min2 hc) br_min2 hm (by decide +kernel) ha hb hg (by decide) (by decide) he he2 hpl
end
end NT

/-! NT: calls of defs and methods, objects made, fields read. -/
namespace NT
open PySem PySem.Spec PyProof.Rows L2

/-- a class's instances have this field and no class above has the name -/
def FOk (K : PySem.W.Frag) (C : Addr) (f : Str) : Prop := Cls K C ∧ NoAttr K C f
def eCall (g : FN) (r : FA) : FE := fun δ μ C E => r δ μ (fun ds μ1 => g ds μ1 C E) E
def eMeth (tbl : Addr → Option FN) (m : Str) (o : FE) (r : FA) : FE := fun δ μ C E => o δ μ (fun p μ1 => match p with
  | .val (.ref n) => (match μ1[n]? with
    | some (.ins c fs) => (match tbl c with
      | some g => fs.lookup m = none ∧ r δ μ1 (fun ds μ2 => g (.ref n :: ds) μ2 C E) E
      | none => False)
    | _ => False)
  | _ => False) E
def eMake (c : Addr) (g : FN) (r : FA) : FE := fun δ μ C E => r δ μ (fun ds μ1 => g (.ref μ1.length :: ds) (μ1 ++ [.ins c []]) (fun p μ2 => p = .val .non ∧ C (.val (.ref μ1.length)) μ2) E) E
def eFld (K : PySem.W.Frag) (f : Str) (o : FE) : FE := fun δ μ C E => o δ μ (fun p μ1 => match p with
  | .val (.ref n) => (match μ1[n]? with
    | some (.ins c fs) => FOk K c f ∧ (match fs.lookup f with
      | some (.own a _) => C (.bor a (.fld n f)) μ1
      | some p => C p μ1
      | none => False)
    | _ => False)
  | _ => False) E

section
variable {X : Cx} {W : WX} {k : Nat} {f c : Addr} {g : FN} {x m : Str} {p pos apos : Pos} {e o : Expr} {es : List Expr} {fo : FE} {r : FA}
theorem run_g {pins : List (Addr × Obj)} {σ : L2.St} {H : Hp} {s : Shared} {Q : VK} {us : List Value} {vs : List V} (F : FnG X.prog X.w X.K X.mg X.base k f g) (hr : Room k X.A) (gu : X.A.guards = some []) (tk : Takes X W)
    (I : Inv X pins σ H s) (rv : Vals vs us) (h : spOf X.K g vs H Q (WE W σ)) : wpAny (model X.prog X.w) X.A (call (.ref f) us) (EP X pins σ Q) X.xe s := by
  refine wpAny_call (codeAny_mono (F.run X.A X.stack s H us vs Q (WE W σ) hr gu I.env0 rv h) fun res s' hq => ?_)
  cases res with
  | error ex => exact passAt tk σ pins H s ex s' I hq
  | ok fl =>
    cases fl with
    | ret u => exact I.after hq
    | _ => exact False.elim hq
/-- the promise that a call's arguments bring -/
theorem sp_args {K : PySem.W.Frag} {ρ ρ1 : List Addr} {μ μ1 : Mu} {δ : Sl} {σ : L2.St} {H H1 : Hp} {Q : VK} {C : P → Mu → Prop} {E : CX} {ds : List D} {vs : List V} (ho : Hold K ρ μ δ σ H) (e1 : Evo K (footM ρ μ) ρ H ρ1 μ1 H1 F0) (r1 : Reps K ρ1 H1 ds vs)
    (hC : ∀ p μ', C p μ' → ∀ ρ' H' v, Evo K (footM ρ μ) ρ H ρ' μ' H' (footP p) → PR K ρ' H' p v → Q v H') (hX : XOut K W ρ μ σ H E) (c : g ds μ1 C E) : spOf K g vs H1 Q (WE W σ) :=
  ⟨ρ1, μ1, ds, C, E, e1.sm, (ho.after e1).le, r1, c, fun p μ' c2 ρ' H' v e2 r2 => hC p μ' c2 ρ' H' v (e1.transM e2) r2, fun y μ' c2 ρ' H' cls d e2 r2 => hX y μ' c2 ρ' H' cls d (e1.transM e2) r2⟩
theorem e_call (F : FnG X.prog X.w X.K X.mg X.base k f g) (hr : Room k X.A) (gu : X.A.guards = some []) (tk : Takes X W) (hm : X.mg x = some (.ref f)) (ha : AF X W (e :: es) r) (hg : Gl X x := by rfl) (hdb : (x == ("__debug__" : Str)) = false := by decide)
    (he : starEach (e :: es) X.env = (false, eval e X.env) :: starEach es X.env := by rfl) (hpl : (backTo pos (starEach es X.env)).any (·.1) = false := by rfl) : EF X W (.Call (.Name x p) (e :: es) [] pos) (eCall g r) := by
  refine ⟨fun pins s σ H Q I ⟨ρ, μ, δ, C, E, ho, c, hC, hX⟩ => ?_⟩
  refine wpAny_Call_Name_kw (ld_glob (X := X) I hg hm ?_ hdb)
  refine PySem.W.callWith_K (h₀ := X.base) I.ok.mod.kin F.kp (thn (ha.run pos pins s σ H (fun vs H1 => spOf X.K g vs H1 Q (WE W σ)) I ⟨ρ, μ, δ, _, E, ho, c, fun ds μ1 c1 ρ1 H1 vs e1 r1 => sp_args ho e1 r1 hC hX c1, hX⟩) fun us s1 hh => ?_) he hpl
  obtain ⟨vs, H1, I1, rv, q⟩ := hh
  exact ⟨I1.kIn, run_g F hr gu tk I1 rv q⟩
theorem e_call0 (F : FnG X.prog X.w X.K X.mg X.base k f g) (hr : Room k X.A) (gu : X.A.guards = some []) (tk : Takes X W) (hm : X.mg x = some (.ref f)) (hg : Gl X x := by rfl) (hdb : (x == ("__debug__" : Str)) = false := by decide) : EF X W (.Call (.Name x p) [] [] pos) (eCall g aNil) := by
  refine ⟨fun pins s σ H Q I ⟨ρ, μ, δ, C, E, ho, c, hC, hX⟩ => ?_⟩
  refine wpAny_Call_Name_kw (ld_glob (X := X) I hg hm ?_ hdb)
  exact PySem.W.callWith_K0 I.kIn F.kp (run_g (us := []) F hr gu tk I .nil (sp_args ho ho.refl reps_nil hC hX c))
/-- a table of methods by class -/
def MtOk (X : Cx) (k : Nat) (m : Str) (tbl : Addr → Option FN) : Prop := ∀ c g, tbl c = some g → ∃ f, Cls X.K c ∧ Meth X.K c m f ∧ FnG X.prog X.w X.K X.mg X.base k f g
/-- the receiver: an instance, its class's method -/
theorem meth_at {K : PySem.W.Frag} {ρ : List Addr} {μ : Mu} {H : Hp} {n : Nat} {fs : List (Str × P)} {v : V} (sm : SM K ρ μ H) (q : μ[n]? = some (.ins c fs)) (rp : PR K ρ H (.val (.ref n)) v) (hm : fs.lookup m = none) :
    ∃ a dx vs, v = .ref a ∧ ρ[n]? = some a ∧ H a = some (.ins c dx vs) ∧ vs.lookup m = none := by
  simp only [PR, Rep] at rp
  obtain ⟨a, rfl, h2⟩ := rp
  obtain ⟨b, h3, dx, vs, h4, h5⟩ := sm.obj n _ q
  rw [h2] at h3
  cases h3
  exact ⟨a, dx, vs, rfl, h2, h4, fs_none h5 hm⟩
theorem e_meth {pl : Sem Bool} {tbl : Addr → Option FN} (T : MtOk X k m tbl) (hr : Room k X.A) (gu : X.A.guards = some []) (tk : Takes X W) (h1 : EF X W o fo) (ha : AF X W (e :: es) r)
    (he : starEach (e :: es) X.env = (false, eval e X.env) :: starEach es X.env := by rfl) (hpl : (backTo pos (starEach es X.env)).any (·.1) = false := by rfl)
    (ht : eval (.Call (.Attribute o m apos) (e :: es) [] pos) X.env = (do
      let ov ← eval o X.env
      standAt apos.atName
      let (f, first) ← holding [ov] (getMethod ov m pl)
      callWith pos f first (backTo pos (starEach (e :: es) X.env)) (backToKw pos (keywordEach [] X.env))) := by rfl) : EF X W (.Call (.Attribute o m apos) (e :: es) [] pos) (eMeth tbl m fo r) := by
  refine ⟨fun pins s σ H Q I ⟨ρ, μ, δ, C, E, ho, c, hC, hX⟩ => ?_⟩
  let Q1 : VK := fun v H1 => ∃ a c f g dx vs, v = .ref a ∧ H1 a = some (.ins c dx vs) ∧ vs.lookup m = none ∧ Cls X.K c ∧ Meth X.K c m f ∧ FnG X.prog X.w X.K X.mg X.base k f g ∧ liftA X.K W r σ H1 fun ws H2 => spOf X.K g (.ref a :: ws) H2 Q (WE W σ)
  have s1 : liftE X.K W fo σ H Q1 := by
    refine ⟨ρ, μ, δ, _, E, ho, c, fun p μ1 c1 ρ1 H1 v1 e1 r1 => ?_, hX⟩
    split at c1
    · rename_i n
      split at c1
      · rename_i c fs q
        split at c1
        · rename_i g hg
          obtain ⟨f, t1, t2, t3⟩ := T c g hg
          obtain ⟨a, dx, vs, rfl, hρ, h3, h4⟩ := meth_at e1.sm q r1 c1.1
          refine ⟨a, c, f, g, dx, vs, rfl, h3, h4, t1, t2, t3, ρ1, μ1, δ, _, E, ho.after e1, c1.2, fun ds μ2 c2 ρ2 H2 ws e2 r2 => ?_, hX.after e1⟩
          refine sp_args (ds := .ref n :: ds) ho (e1.drop.transM e2) ?_ hC hX c2
          refine reps_cons ?_ r2
          simp only [Rep]
          exact ⟨a, rfl, e2.ext n a hρ⟩
        · exact c1.elim
      · exact c1.elim
    · exact c1.elim
  refine PySem.W.methodCall_KW (pl := pl) (thn (h1.run pins s σ H Q1 I s1) fun u s1 hh => ?_) ht
  obtain ⟨v, H1, I1, rv, a, c, f, g, dx, vs, rfl, h3, h4, t1, t2, t3, la⟩ := hh
  obtain rfl : u = Value.ref a := rv
  refine getmeth_ok I1 h3 t1 t2 h4 ?_
  refine PySem.W.callWith_K (first := [.ref a]) (h₀ := X.base) I.ok.mod.kin t2.kp (thn (ha.run pos pins s1 σ H1 _ I1 la) fun us s2 hk => ?_) he hpl
  obtain ⟨ws, H2, I2, rw', q2⟩ := hk
  exact ⟨I2.kIn, run_g (us := .ref a :: us) (vs := .ref a :: ws) t3 hr gu tk I2 (.cons rfl rw') q2⟩
theorem e_meth0 {pl : Sem Bool} {tbl : Addr → Option FN} (T : MtOk X k m tbl) (hr : Room k X.A) (gu : X.A.guards = some []) (tk : Takes X W) (h1 : EF X W o fo)
    (ht : eval (.Call (.Attribute o m apos) [] [] pos) X.env = (do
      let ov ← eval o X.env
      standAt apos.atName
      let (f, first) ← holding [ov] (getMethod ov m pl)
      callWith pos f first (backTo pos (starEach [] X.env)) (backToKw pos (keywordEach [] X.env))) := by rfl) : EF X W (.Call (.Attribute o m apos) [] [] pos) (eMeth tbl m fo aNil) := by
  refine ⟨fun pins s σ H Q I ⟨ρ, μ, δ, C, E, ho, c, hC, hX⟩ => ?_⟩
  let Q1 : VK := fun v H1 => ∃ a c f g dx vs, v = .ref a ∧ H1 a = some (.ins c dx vs) ∧ vs.lookup m = none ∧ Cls X.K c ∧ Meth X.K c m f ∧ FnG X.prog X.w X.K X.mg X.base k f g ∧ spOf X.K g [.ref a] H1 Q (WE W σ)
  have s1 : liftE X.K W fo σ H Q1 := by
    refine ⟨ρ, μ, δ, _, E, ho, c, fun p μ1 c1 ρ1 H1 v1 e1 r1 => ?_, hX⟩
    split at c1
    · rename_i n
      split at c1
      · rename_i c fs q
        split at c1
        · rename_i g hg
          obtain ⟨f, t1, t2, t3⟩ := T c g hg
          obtain ⟨a, dx, vs, rfl, hρ, h3, h4⟩ := meth_at e1.sm q r1 c1.1
          refine ⟨a, c, f, g, dx, vs, rfl, h3, h4, t1, t2, t3, ?_⟩
          refine sp_args (ds := [.ref n]) ho e1.drop ?_ hC hX c1.2
          refine reps_cons ?_ reps_nil
          simp only [Rep]
          exact ⟨a, rfl, hρ⟩
        · exact c1.elim
      · exact c1.elim
    · exact c1.elim
  refine PySem.W.methodCall_KW (pl := pl) (thn (h1.run pins s σ H Q1 I s1) fun u s1 hh => ?_) ht
  obtain ⟨v, H1, I1, rv, a, c, f, g, dx, vs, rfl, h3, h4, t1, t2, t3, la⟩ := hh
  obtain rfl : u = Value.ref a := rv
  refine getmeth_ok I1 h3 t1 t2 h4 ?_
  exact PySem.W.callWith_K0 (first := [.ref a]) I1.kIn t2.kp (run_g (us := [.ref a]) (vs := [.ref a]) t3 hr gu tk I1 (.cons rfl .nil) la)
/-- a new instance in the store -/
theorem Hold.newIns {K : PySem.W.Frag} {ρ : List Addr} {μ : Mu} {δ : Sl} {σ : L2.St} {H : Hp} (h : Hold K ρ μ δ σ H) {y dx : Addr} (n1 : H y = none) (n2 : H dx = none) (ne : dx ≠ y) :
    Evo K (footM ρ μ) ρ H (ρ ++ [y]) (μ ++ [.ins c []]) (upd (upd H dx (.own y)) y (.ins c dx [])) F0 := by
  have e1 : Evo K (footM ρ μ) ρ H ρ μ (upd H dx (.own y)) F0 := (Evo.new h.sm h.le n2).drop
  have n3 : upd H dx (.own y) y = none := by rw [upd_ne (Ne.symm ne)]; exact n1
  exact e1.transM (Evo.push e1.sm h.le n3 (fun _ => rfl) ⟨dx, [], upd_same, rfl⟩)
theorem run_mk {pins : List (Addr × Obj)} {σ : L2.St} {H : Hp} {s : Shared} {Q : VK} {us : List Value} {vs : List V} (M : Mk X.K c f) (F : FnG X.prog X.w X.K X.mg X.base k f g) (hr : Room (k + 1) X.A) (gu : X.A.guards = some []) (tk : Takes X W)
    (I : Inv X pins σ H s) (rv : Vals vs us) (h : ∀ y dx, H y = none → H dx = none → dx ≠ y → spOf X.K g (.ref y :: vs) (upd (upd H dx (.own y)) y (.ins c dx [])) (fun v H2 => v = .non ∧ Q (.ref y) H2) (WE W σ)) :
    wpAny (model X.prog X.w) X.A (call (.ref c) us) (EP X pins σ Q) X.xe s := by
  have hq := h (s.heap.objs.size + 1) s.heap.objs.size (I.hok.fresh (Nat.le_succ _)) (I.hok.fresh (Nat.le_refl _)) (Nat.ne_of_lt (Nat.lt_succ_self _))
  have J := Inv.made (C := c) I
  have gu2 : (X.A.under (.builtin "type.__call__" ⟨.ref c :: us, []⟩)).guards = some [] := by
    have q : (Code.builtin "type.__call__" ⟨.ref c :: us, []⟩).guards = [] := by
      have z : (Code.builtin "type.__call__" ⟨.ref c :: us, []⟩).isGuard = false := by
        show guardIds.contains "type.__call__" = false
        decide +kernel
      simp only [Code.guards, z, Bool.false_eq_true, if_false]
    simp only [Around.under, q, pushGuards, gu]
  refine wpAny_call (make_map (f := f) I.kIn M.makes M.init (beq_iff_eq.mp M.fn) (codeAny_mono (F.run _ X.stack _ _ (Value.ref (s.heap.objs.size + 1) :: us) (V.ref (s.heap.objs.size + 1) :: vs) _ (WE W σ) (hr.make c us []) gu2 (J.env0.make c us []) (.cons rfl rv) hq) fun res s' hq' => ?_))
  cases res with
  | error ex => exact passAt tk σ pins _ _ ex s' J hq'
  | ok fl =>
    cases fl with
    | ret u =>
      obtain ⟨v, H', J2, rv2, ev, q3⟩ := J.after hq'
      subst ev
      exact ⟨rv2, ⟨V.ref (s.heap.objs.size + 1), H', J2, rfl, q3⟩⟩
    | _ => exact False.elim hq'
theorem sp_make {K : PySem.W.Frag} {ρ ρ1 : List Addr} {μ μ1 : Mu} {δ : Sl} {σ : L2.St} {H H1 : Hp} {Q : VK} {C : P → Mu → Prop} {E : CX} {ds : List D} {vs : List V} (ho : Hold K ρ μ δ σ H) (e1 : Evo K (footM ρ μ) ρ H ρ1 μ1 H1 F0) (r1 : Reps K ρ1 H1 ds vs)
    (hC : ∀ p μ', C p μ' → ∀ ρ' H' v, Evo K (footM ρ μ) ρ H ρ' μ' H' (footP p) → PR K ρ' H' p v → Q v H') (hX : XOut K W ρ μ σ H E)
    (q : g (.ref μ1.length :: ds) (μ1 ++ [.ins c []]) (fun p μ2 => p = .val .non ∧ C (.val (.ref μ1.length)) μ2) E) :
    ∀ y dx, H1 y = none → H1 dx = none → dx ≠ y → spOf K g (.ref y :: vs) (upd (upd H1 dx (.own y)) y (.ins c dx [])) (fun v H2 => v = .non ∧ Q (.ref y) H2) (WE W σ) := by
  intro y dx n1 n2 ne
  have h1 := ho.after e1
  have e2 : Evo K (footM ρ1 μ1) ρ1 H1 (ρ1 ++ [y]) (μ1 ++ [.ins c []]) (upd (upd H1 dx (.own y)) y (.ins c dx [])) F0 := h1.newIns n1 n2 ne
  have ey : (ρ1 ++ [y])[μ1.length]? = some y := by rw [← h1.sm.len]; simp
  refine ⟨_, _, .ref μ1.length :: ds, _, E, e2.sm, fun x => by have := e2.one x; omega, reps_cons ?_ (r1.stay (e2.stayM h1.sm) e2.ext), q, fun p μ' c2 ρ' H' v e3 r3 => ?_, fun z μ' c2 ρ' H' cls d e3 r3 => hX z μ' c2 ρ' H' cls d ((e1.transM e2).transM e3) r3⟩
  · simp only [Rep]
    exact ⟨y, rfl, ey⟩
  · obtain ⟨rfl, c3⟩ := c2
    refine ⟨pr_non r3, hC _ μ' c3 ρ' H' _ ((e1.transM e2).transM e3) ?_⟩
    simp only [PR, Rep]
    exact ⟨y, rfl, e3.ext _ _ ey⟩
theorem e_make (M : Mk X.K c f) (F : FnG X.prog X.w X.K X.mg X.base k f g) (hr : Room (k + 1) X.A) (gu : X.A.guards = some []) (tk : Takes X W) (hm : X.mg x = some (.ref c)) (ha : AF X W (e :: es) r) (hg : Gl X x := by rfl) (hdb : (x == ("__debug__" : Str)) = false := by decide)
    (he : starEach (e :: es) X.env = (false, eval e X.env) :: starEach es X.env := by rfl) (hpl : (backTo pos (starEach es X.env)).any (·.1) = false := by rfl) : EF X W (.Call (.Name x p) (e :: es) [] pos) (eMake c g r) := by
  refine ⟨fun pins s σ H Q I ⟨ρ, μ, δ, C, E, ho, q, hC, hX⟩ => ?_⟩
  refine wpAny_Call_Name_kw (ld_glob (X := X) I hg hm ?_ hdb)
  refine PySem.W.callWith_K (h₀ := X.base) I.ok.mod.kin M.kp (thn (ha.run pos pins s σ H (fun vs H1 => ∀ y dx, H1 y = none → H1 dx = none → dx ≠ y → spOf X.K g (.ref y :: vs) (upd (upd H1 dx (.own y)) y (.ins c dx [])) (fun v H2 => v = .non ∧ Q (.ref y) H2) (WE W σ)) I
    ⟨ρ, μ, δ, _, E, ho, q, fun ds μ1 c1 ρ1 H1 vs e1 r1 => sp_make ho e1 r1 hC hX c1, hX⟩) fun us s1 hh => ?_) he hpl
  obtain ⟨vs, H1, I1, rv, q1⟩ := hh
  exact ⟨I1.kIn, run_mk M F hr gu tk I1 rv q1⟩
theorem e_make0 (M : Mk X.K c f) (F : FnG X.prog X.w X.K X.mg X.base k f g) (hr : Room (k + 1) X.A) (gu : X.A.guards = some []) (tk : Takes X W) (hm : X.mg x = some (.ref c)) (hg : Gl X x := by rfl) (hdb : (x == ("__debug__" : Str)) = false := by decide) : EF X W (.Call (.Name x p) [] [] pos) (eMake c g aNil) := by
  refine ⟨fun pins s σ H Q I ⟨ρ, μ, δ, C, E, ho, q, hC, hX⟩ => ?_⟩
  refine wpAny_Call_Name_kw (ld_glob (X := X) I hg hm ?_ hdb)
  exact PySem.W.callWith_K0 I.kIn M.kp (run_mk (us := []) M F hr gu tk I .nil (sp_make ho ho.refl reps_nil hC hX q))
theorem e_fld {fl : Str} (ha : EF X W o fo) (hb : attributeBase o fl X.env (eval o X.env) = eval o X.env := by rfl) : EF X W (.Attribute o fl pos) (eFld X.K fl fo) := pe_imp (pe_fld ha hb) fun σ H Q ⟨ρ, μ, δ, C, E, ho, c, hC, hX⟩ =>
  ⟨ρ, μ, δ, _, E, ho, c, fun p μ1 c1 ρ1 H1 v1 e1 r1 => by
    split at c1
    · rename_i n
      split at c1
      · rename_i c fs q
        obtain ⟨⟨k1, k2⟩, c1⟩ := c1
        simp only [PR, Rep] at r1
        obtain ⟨a, rfl, h2⟩ := r1
        obtain ⟨b, h3, dx, vs, h4, h5⟩ := e1.sm.obj n _ q
        rw [h2] at h3
        cases h3
        split at c1
        · rename_i y ds z
          obtain ⟨v, h6, h7, _⟩ := fs_lookup h5 z
          exact ⟨a, c, dx, vs, v, rfl, h4, k1, k2, h6, hC _ μ1 c1 ρ1 H1 v e1 h7⟩
        · rename_i w hne z
          obtain ⟨v, h6, h7⟩ := fs_lookup h5 z
          refine ⟨a, c, dx, vs, v, rfl, h4, k1, k2, h6, hC _ μ1 c1 ρ1 H1 v (e1.less fun x => ?_) h7⟩
          cases w with
          | own a ds => exact absurd rfl (hne a ds)
          | _ => exact Nat.zero_le _
        · exact c1.elim
      · exact c1.elim
    · exact c1.elim, hX⟩
end
end NT

/-! NT: targets, assignments, blocks, if, return. -/
namespace NT
open PySem PySem.Spec PyProof.Rows L2

abbrev EX := EV → Sl → Mu → Prop
/-- a target: what is stored -/
abbrev FG := P → Sl → Mu → (Sl → Mu → Prop) → EX → Prop
abbrev FGs := List P → Sl → Mu → (Sl → Mu → Prop) → EX → Prop
def footL : List P → Addr → Nat
  | [], _ => 0
  | p :: r, x => footP p x + footL r x
def PRs (K : PySem.W.Frag) (ρ : List Addr) (H : Hp) : List P → List V → Prop
  | [], vs => vs = []
  | p :: r, vs => ∃ v t, vs = v :: t ∧ PR K ρ H p v ∧ PRs K ρ H r t
/-- with F pending besides the slots -/
def SOutF (K : PySem.W.Frag) (B : Addr → Nat) (ρ : List Addr) (H : Hp) (F : Addr → Nat) (C : Sl → Mu → Prop) (N : L2.St → Hp → Prop) : Prop :=
  ∀ δ' μ', C δ' μ' → ∀ ρ' σ' H', Evo K B ρ H ρ' μ' H' (fun x => F x + footS δ' x) → SS K ρ' H' δ' σ' → N σ' H'
def XOutS (K : PySem.W.Frag) (W : WX) (B : Addr → Nat) (ρ : List Addr) (H : Hp) (E : EX) : Prop :=
  ∀ x δ' μ', E x δ' μ' → ∀ ρ' σ' H' cls d, Evo K B ρ H ρ' μ' H' (footS δ') → SS K ρ' H' δ' σ' → XR K ρ' H' x cls d → W cls d σ' H'
/-- what is pending and held -/
abbrev footP1 (p : P) (ρ : List Addr) (μ : Mu) (δ : Sl) : Addr → Nat := fun x => footP p x + footB ρ μ δ x
abbrev footL1 (ps : List P) (ρ : List Addr) (μ : Mu) (δ : Sl) : Addr → Nat := fun x => footL ps x + footB ρ μ δ x
def liftG (K : PySem.W.Frag) (W : WX) (g : FG) : TG := fun v σ H Q => ∃ ρ μ δ p C E, Hold K ρ μ δ σ H ∧ PR K ρ H p v ∧ (∀ x, footP1 p ρ μ δ x ≤ 1) ∧ g p δ μ C E ∧
  (∀ δ' μ', C δ' μ' → ∀ ρ' σ' H', Evo K (footP1 p ρ μ δ) ρ H ρ' μ' H' (footS δ') → SS K ρ' H' δ' σ' → Q σ' H') ∧ XOutS K W (footP1 p ρ μ δ) ρ H E
def GF (X : Cx) (W : WX) (e : Expr) (g : FG) : Prop := PG X e (liftG X.K W g)

section
variable {K : PySem.W.Frag} {W : WX} {ρ ρ1 ρ2 : List Addr} {μ μ1 μ2 : Mu} {δ δ1 : Sl} {σ σ1 : L2.St} {H H1 H2 : Hp} {F : Addr → Nat} {E : CX}
theorem footS_set : ∀ {δ : Sl} {i : Nat} {so : Option P} (s' : Option P) (x : Addr), δ[i]? = some so → footS (δ.set i s') x + (so.elim 0 fun p => footP p x) = footS δ x + (s'.elim 0 fun p => footP p x)
  | [], _, _, _, _, h => by simp at h
  | none :: δ, 0, _, s', x, h => by
    simp at h
    subst h
    cases s' <;> simp [footS] <;> omega
  | some q :: δ, 0, _, s', x, h => by
    simp at h
    subst h
    cases s' <;> simp [footS] <;> omega
  | none :: δ, i + 1, _, s', x, h => by
    have := footS_set (δ := δ) (i := i) s' x (by simpa using h)
    simpa only [List.set_cons_succ, footS] using this
  | some q :: δ, i + 1, _, s', x, h => by
    have := footS_set (δ := δ) (i := i) s' x (by simpa using h)
    simp only [List.set_cons_succ, footS]
    omega
theorem footS_le (δ : Sl) (i : Nat) (p : P) (x : Addr) : footS (δ.set i (some p)) x ≤ footS δ x + footP p x := by
  cases q : δ[i]? with
  | none =>
    have hl : δ.length ≤ i := List.getElem?_eq_none_iff.mp q
    rw [List.set_eq_of_length_le hl]
    omega
  | some so =>
    have := footS_set (some p) x q
    cases so <;> simp at this <;> omega
theorem SS.put {i : Nat} {p : P} {v : V} (h : SS K ρ H δ σ) (r : PR K ρ H p v) : SS K ρ H (δ.set i (some p)) (σ.set i (some v)) := by
  refine ⟨by simp [h.len], fun j q e => ?_⟩
  by_cases hj : i = j
  · subst hj
    have hi : i < δ.length := by
      by_cases hi : i < δ.length
      · exact hi
      · rw [List.set_eq_of_length_le (by omega), List.getElem?_eq_none (by omega)] at e
        cases e
    rw [List.getElem?_set_self hi] at e
    cases e
    exact ⟨v, by rw [List.getElem?_set_self (by rw [← h.len]; exact hi)], r⟩
  · rw [List.getElem?_set_ne hj] at e
    obtain ⟨u, h1, h2⟩ := h.at_ j q e
    exact ⟨u, by rw [List.getElem?_set_ne hj]; exact h1, h2⟩
/-- another view of a slot -/
theorem SS.view {i : Nat} {p : P} {v : V} (h : SS K ρ H δ σ) (e : σ[i]? = some (some v)) (r : PR K ρ H p v) : SS K ρ H (δ.set i (some p)) σ := by
  have q := h.put (i := i) r
  rwa [show σ.set i (some v) = σ from List.ext_getElem? fun j => by
    by_cases hj : i = j
    · subst hj
      rw [List.getElem?_set_self (List.getElem?_eq_some_iff.mp e).1, e]
    · rw [List.getElem?_set_ne hj]] at q
theorem SS.forget (i : Nat) (h : SS K ρ H δ σ) : SS K ρ H (δ.set i none) σ := by
  refine ⟨by simp [h.len], fun j q e => ?_⟩
  by_cases hj : i = j
  · subst hj
    by_cases hi : i < δ.length
    · rw [List.getElem?_set_self hi] at e
      cases e
    · rw [List.set_eq_of_length_le (by omega)] at e
      exact h.at_ i q e
  · rw [List.getElem?_set_ne hj] at e
    exact h.at_ j q e
/-- a name's slot takes what is pending -/
theorem evo_put {p : P} (i : Nat) (h : SM K ρ μ H) (one : ∀ x, footP1 p ρ μ δ x ≤ 1) : Evo K (footP1 p ρ μ δ) ρ H ρ μ H (footS (δ.set i (some p))) := by
  have le := footS_le δ i p
  refine ⟨h, Ext.refl ρ, fun a o q _ => q, fun x q => .inl ?_, fun x => ?_⟩
  · have := le x
    show 1 ≤ footP p x + (footS δ x + footM ρ μ x)
    omega
  · have := le x
    have h1 : footP p x + (footS δ x + footM ρ μ x) ≤ 1 := one x
    omega
end
def gNm (i : Nat) : FG := fun p δ μ C _ => C (δ.set i (some p)) μ
/-- a list of a slot that is moved -/
def moved (δ : Sl) (C : P → Sl → Prop) : P → Prop
  | .val d => C (.val d) δ
  | .own a ds => C (.own a ds) δ
  | .bor a (.slot i) => match δ[i]? with
    | some (some (.own b ds)) => b = a ∧ C (.own b ds) (δ.set i none)
    | _ => False
  | .bor _ (.fld _ _) => False
def putP (f : Str) (v : P) : List (Str × P) → List (Str × P)
  | [] => [(f, v)]
  | (g, x) :: r => if g = f then (g, v) :: r else (g, x) :: putP f v r
def gFd (K : PySem.W.Frag) (f : Str) (fo : FE) : FG := fun p δ μ C E => fo δ μ (fun q μ1 => match q with
  | .val (.ref n) => (match μ1[n]? with
    | some (.ins c fs) => (FOk K c f ∧ fs.length < 1000) ∧ moved δ (fun p' δ' => C δ' (μ1.set n (.ins c (putP f p' fs)))) p
    | _ => False)
  | _ => False) (fun x μ' => E x δ μ')
section
variable {K : PySem.W.Frag} {W : WX} {ρ ρ1 ρ2 : List Addr} {μ μ1 μ2 : Mu} {δ δ1 : Sl} {σ σ1 : L2.St} {H H1 H2 : Hp} {F : Addr → Nat} {E : CX}
theorem footF_put (f : Str) (p : P) (x : Addr) : ∀ fs : List (Str × P), footF (putP f p fs) x ≤ footF fs x + footP p x
  | [] => by simp [putP, footF]
  | (g, q) :: r => by
    have ih := footF_put f p x r
    simp only [putP]
    split
    · simp only [footF]; omega
    · simp only [footF]; omega
theorem fsR_put {f : Str} {p : P} {v : V} (r : PR K ρ H p v) : ∀ {fs : List (Str × P)} {vs : List (Str × V)}, FsR K ρ H fs vs → FsR K ρ H (putP f p fs) (putF f v vs)
  | [], vs, h => by
    have h' : vs = [] := h
    subst h'
    exact ⟨v, [], rfl, r, rfl⟩
  | (g, q) :: fs, vs, h => by
    obtain ⟨u, t, rfl, h2, h3⟩ := h
    simp only [putP, putF]
    split
    · exact ⟨v, t, rfl, r, h3⟩
    · exact ⟨u, _, rfl, h2, fsR_put r h3⟩
theorem fsR_len : ∀ {fs : List (Str × P)} {vs : List (Str × V)}, FsR K ρ H fs vs → fs.length = vs.length
  | [], vs, h => by have h' : vs = [] := h; subst h'; rfl
  | (g, q) :: fs, vs, h => by
    obtain ⟨u, t, rfl, h2, h3⟩ := h
    simp [fsR_len h3]
/-- a way of the store, with the rest of what is held -/
theorem Evo.frame {B R : Addr → Nat} (e : Evo K B ρ H ρ1 μ1 H1 F) (hR : ∀ x, 1 ≤ R x → ∃ o, H x = some o) (one : ∀ x, R x + B x ≤ 1) : Evo K (fun x => R x + B x) ρ H ρ1 μ1 H1 (fun x => F x + R x) := by
  have z : ∀ x, 1 ≤ R x → F x + footM ρ1 μ1 x = 0 := fun x q => by
    by_cases w : 1 ≤ F x + footM ρ1 μ1 x
    · have h1 := one x
      rcases e.grow x w with r | r
      · omega
      · obtain ⟨o, t⟩ := hR x q
        rw [t] at r
        cases r
    · omega
  refine ⟨e.sm, e.ext, fun a o q w => e.keep a o q (by have w' : R a + B a = 0 := w; omega), fun x q => ?_, fun x => ?_⟩
  · by_cases w : 1 ≤ R x
    · exact .inl (show 1 ≤ R x + B x by omega)
    · rcases e.grow x (by omega) with r | r
      · exact .inl (show 1 ≤ R x + B x by omega)
      · exact .inr r
  · by_cases w : 1 ≤ R x
    · have := z x w
      have := one x
      omega
    · have := e.one x
      omega
/-- the slots that are not touched by a way -/
theorem SS.through {B : Addr → Nat} (h : SS K ρ H δ σ) (e : Evo K B ρ H ρ1 μ1 H1 F) (st : Stay H H1) (ap : ∀ x, 1 ≤ footS δ x → B x = 0) : SS K ρ1 H1 δ σ := h.stay st e.ext fun a o q r => e.keep a o r (ap a q)
end
section
variable {X : Cx} {W : WX} {pos : Pos}
theorem pg_imp {X : Cx} {e : Expr} {t t' : TG} (h : PG X e t) (i : ∀ v σ H Q, t' v σ H Q → t v σ H Q) : PG X e t' := ⟨fun pins s σ H v u Q I r q => h.run pins s σ H v u Q I r (i v σ H Q q)⟩
theorem g_nm {i : Nat} {x : Str} (hN : X.N.Nodup) (hi : X.N[i]? = some x := by rfl) (hx : Loc X.env.scope x := by first | exact Or.inl rfl | exact Or.inr rfl) (hf : X.fn x = true ∨ X.env.scope.names.lookup x = some .local := by first | exact .inl rfl | exact .inr rfl | assumption) : GF X W (.Name x pos) (gNm i) :=
  pg_imp (pg_name hN hi hx hf) fun v σ H Q ⟨ρ, μ, δ, p, C, E, ho, r, one, c, hC, hX⟩ => hC _ _ c ρ _ H (evo_put i ho.sm one) (ho.ss.put r)
/-- o.f = v by values -/
theorem g_fd {f : Str} {o : Expr} {fo : FE} (h : EF X W o fo) : GF X W (.Attribute o f pos) (gFd X.K f fo) := by
  refine ⟨fun pins s σ H v u Q I r ⟨ρ, μ, δ, p, C, E, ho, rp, one, c, hC, hX⟩ => ?_⟩
  rw [PySem.assign_Attribute]
  let Q1 : VK := fun y H1 => ∃ a cc dx vs, y = .ref a ∧ H1 a = some (.ins cc dx vs) ∧ Cls X.K cc ∧ NoAttr X.K cc f ∧ vs.length < 1000 ∧ Q σ (upd H1 a (.ins cc dx (putF f v vs)))
  have one' : ∀ x, footP p x + (footS δ x + footM ρ μ x) ≤ 1 := one
  have kind : ∀ x, 1 ≤ footP p x + footS δ x → ∃ o, H x = some o := fun x q => by
    by_cases z : 1 ≤ footP p x
    · obtain ⟨xs, e⟩ := rp.foot z
      exact ⟨_, e⟩
    · obtain ⟨xs, e⟩ := ho.ss.foot (x := x) (by omega)
      exact ⟨_, e⟩
  have s1 : liftE X.K W fo σ H Q1 := by
    refine ⟨ρ, μ, δ, _, _, ho, c, fun q μ1 c1 ρ1 H1 v1 e1 r1 => ?_, fun x μ' c2 ρ' H' cls d e2 r2 => ?_⟩
    · split at c1
      · rename_i n
        split at c1
        · rename_i cc fs q
          obtain ⟨⟨⟨k1, k2⟩, k3⟩, mv⟩ := c1
          simp only [PR, Rep] at r1
          obtain ⟨a, rfl, h2⟩ := r1
          obtain ⟨b, h3, dx, vs, h4, h5⟩ := e1.sm.obj n _ q
          rw [h2] at h3
          cases h3
          refine ⟨a, cc, dx, vs, rfl, h4, k1, k2, by rw [← fsR_len h5]; exact k3, ?_⟩
          have e1' := e1.drop
          -- what waits is as it was
          have st := e1'.stayM ho.sm
          have keepF : ∀ x o, 1 ≤ footP p x + footS δ x → H x = some o → H1 x = some o := fun x o q z => e1'.keep x o z (by have := one' x; omega)
          have ap1 : ∀ x, footP p x + footS δ x + footM ρ1 μ1 x ≤ 1 := fun x => by
            have f := e1'.frame (R := fun y => footP p y + footS δ y) kind (fun y => by have := one' y; omega)
            have := f.one x
            have z : F0 x = 0 := rfl
            omega
          have tot : Evo X.K (footP1 p ρ μ δ) ρ H ρ1 μ1 H1 (fun x => footP p x + footS δ x) := by
            have f := e1'.frame (R := fun y => footP p y + footS δ y) kind (fun y => by have := one' y; omega)
            refine ⟨f.sm, f.ext, fun x o q z => f.keep x o q ?_, fun x q => ?_, fun x => by have := ap1 x; omega⟩
            · have z' : footP p x + (footS δ x + footM ρ μ x) = 0 := z
              show footP p x + footS δ x + footM ρ μ x = 0
              omega
            · rcases f.grow x (by show 1 ≤ F0 x + (footP p x + footS δ x) + footM ρ1 μ1 x; omega) with t | t
              · refine .inl ?_
                have t' : 1 ≤ footP p x + footS δ x + footM ρ μ x := t
                show 1 ≤ footP p x + (footS δ x + footM ρ μ x)
                omega
              · exact .inr t
          have ss1 := ho.ss.stay st e1'.ext fun x o q z => keepF x o (by omega) z
          -- the store's step, for what is stored p' and the slots δ' that stay
          have fin : ∀ (p' : P) (δ' : Sl), PR X.K ρ1 H1 p' v → SS X.K ρ1 H1 δ' σ → (∀ x, footP p' x + footS δ' x ≤ footP p x + footS δ x) → C δ' (μ1.set n (.ins cc (putP f p' fs))) → Q σ (upd H1 a (.ins cc dx (putF f v vs))) := by
            intro p' δ' rp' ss' le c3
            have one3 : ∀ x, footP p' x + footM ρ1 μ1 x ≤ 1 := fun x => by have := ap1 x; have := le x; omega
            have e3 : Evo X.K (fun x => footP p' x + footM ρ1 μ1 x) ρ1 H1 ρ1 (μ1.set n (.ins cc (putP f p' fs))) (upd H1 a (.ins cc dx (putF f v vs))) F0 := by
              refine Evo.set e1.sm one3 h2 q (fun x => ?_) fun st3 ko => ⟨dx, putF f v vs, upd_same, ?_⟩
              · have := footF_put f p' x fs
                have z : F0 x = 0 := rfl
                simp only [footO]
                omega
              · exact fsR_put (rp'.stay st3 (Ext.refl _) fun x o q z => ko x o (by omega) z) (h5.stay st3 (Ext.refl _) _ _ fun x o q z => ko x o (by simp only [footO]; omega) z)
            have kind1 : ∀ x, 1 ≤ footS δ' x → ∃ o, H1 x = some o := fun x q => let ⟨xs, e⟩ := ss'.foot q; ⟨_, e⟩
            have e4 := e3.frame (R := footS δ') kind1 fun x => by have := ap1 x; have := le x; omega
            have st4 : Stay H1 (upd H1 a (.ins cc dx (putF f v vs))) := e3.stay fun x q => by
              by_cases z : 1 ≤ footM ρ1 μ1 x
              · exact e1.sm.foot z
              · have q' : 1 ≤ footP p' x + footM ρ1 μ1 x := q
                obtain ⟨xs, e⟩ := rp'.foot (x := x) (by omega)
                exact ⟨_, e, fun w => w⟩
            refine hC δ' _ c3 ρ1 σ _ (tot.trans (e4.less fun x => by omega) fun x q => ?_) ?_
            · have q' : 1 ≤ footS δ' x + (footP p' x + footM ρ1 μ1 x) := q
              have := le x
              omega
            · exact ss'.stay st4 (Ext.refl _) fun x o q z => e4.keep x o z |> fun _ => e3.keep x o z (by show footP p' x + footM ρ1 μ1 x = 0; have := ap1 x; have := le x; omega)
          have rp1 : PR X.K ρ1 H1 p v := rp.stay st e1'.ext fun x o q z => keepF x o (by omega) z
          cases p with
          | val d => exact fin _ δ rp1 ss1 (fun x => Nat.le_refl _) mv
          | own a ds => exact fin _ δ rp1 ss1 (fun x => Nat.le_refl _) mv
          | bor a pl =>
            cases pl with
            | fld m g => exact mv.elim
            | slot i =>
              simp only [moved] at mv
              split at mv
              · rename_i b ds hs
                obtain ⟨rfl, mv⟩ := mv
                obtain ⟨w, g1, g2⟩ := ss1.at_ i _ hs
                have hv : v = .ref b := rp1
                refine fin (.own b ds) _ ⟨hv, g2.2⟩ (ss1.forget i) (fun x => ?_) mv
                have := footS_set (none : Option P) x hs
                simp at this
                omega
              · exact mv.elim
        · exact c1.elim
      · exact c1.elim
    · have f := e2.frame (R := fun y => footP p y + footS δ y) kind (fun y => by have := one' y; omega)
      refine hX x δ μ' c2 ρ' σ H' cls d ⟨f.sm, f.ext, fun x o q z => f.keep x o q ?_, fun x q => ?_, fun x => by have := f.one x; have z : F0 x = 0 := rfl; omega⟩ (ho.ss.stay (e2.stayM ho.sm) e2.ext fun x o q z => e2.keep x o z (by have := one' x; omega)) r2
      · have z' : footP p x + (footS δ x + footM ρ μ x) = 0 := z
        show footP p x + footS δ x + footM ρ μ x = 0
        omega
      · rcases f.grow x (by show 1 ≤ F0 x + (footP p x + footS δ x) + footM ρ' μ' x; omega) with t | t
        · refine .inl ?_
          have t' : 1 ≤ footP p x + footS δ x + footM ρ μ x := t
          show 1 ≤ footP p x + (footS δ x + footM ρ μ x)
          omega
        · exact .inr t
  refine wpAny_bind (wpAny_holding (thn (h.run pins s σ H Q1 I s1) fun ov s1 hh => ?_))
  obtain ⟨y, H1, I1, ry, a, cc, dx, vs, rfl, h4, k1, k2, k3, q⟩ := hh
  obtain rfl : ov = Value.ref a := ry
  first
    | exact wpAny_bind (wpAny_standAt (wpAny_bind (wpAny_holding (setattr_ok I1 h4 k1 k2 k3 r fun s3 I3 => wpAny_release ⟨σ, _, I3, q⟩))))
    | exact wpAny_bind (wpAny_standAt (wpAny_bind (wpAny_holding (setattr_ok I1 h4 k1 k2 k3 r fun s3 I3 => wpAny_bind (wpAny_release ⟨σ, _, I3, q⟩)))))
end
end NT

/-! NT: lists that are changed where they stand. -/
namespace NT
open PySem PySem.Spec PyProof.Rows L2

/-- the list of a place becomes nw -/
def lput (p : P) (δ : Sl) (μ : Mu) (nw : List D) (C : Sl → Mu → Prop) : Prop := match p with
  | .bor a (.slot i) => (match δ[i]? with
    | some (some (.own b _)) => b = a ∧ C (δ.set i (some (.own b nw))) μ
    | _ => False)
  | .bor a (.fld n f) => (match μ[n]? with
    | some (.ins c fs) => (match fs.lookup f with
      | some (.own b _) => b = a ∧ C δ (μ.set n (.ins c (putP f (.own b nw) fs)))
      | _ => False)
    | _ => False)
  | .val (.ref n) => (match μ[n]? with
    | some (.lst _) => C δ (μ.set n (.lst nw))
    | _ => False)
  | _ => False
section
variable {K : PySem.W.Frag} {W : WX} {ρ ρ1 ρ2 : List Addr} {μ μ1 μ2 : Mu} {δ δ1 : Sl} {σ σ1 : L2.St} {H H1 H2 : Hp} {F : Addr → Nat} {E : CX}
theorem fsR_re {f : Str} {b : Addr} {ds nw : List D} {ys : List V} (st : Stay H H1) : ∀ {fs : List (Str × P)} {vs : List (Str × V)}, FsR K ρ H fs vs → fs.lookup f = some (.own b ds) → (∀ x, footF fs x ≤ 1) → (∀ x o, x ≠ b → H x = some o → H1 x = some o) → H1 b = some (.lst ys) → Reps K ρ H1 nw ys →
    FsR K ρ H1 (putP f (.own b nw) fs) vs ∧ ∀ x, footF (putP f (.own b nw) fs) x = footF fs x
  | [], _, _, e, _, _, _, _ => by simp at e
  | (g, q) :: fs, vs, h, e, one, ko, hb, rs => by
    obtain ⟨u, t, rfl, h2, h3⟩ := h
    rw [List.lookup_cons] at e
    have o1 := fun x => by have := one x; simp only [footF] at this; exact this
    cases hg : f == g with
    | true =>
      rw [hg] at e
      simp only [Option.some.injEq] at e
      subst e
      have eg : g = f := (eq_of_beq hg).symm
      subst eg
      simp only [putP, if_true]
      refine ⟨⟨u, t, rfl, ⟨h2.1, ys, hb, rs⟩, h3.stay st (Ext.refl ρ) _ _ fun x o z w => ko x o (fun ne => ?_) w⟩, fun x => by simp [footF, footP]⟩
      have := o1 x
      have : footP (.own b ds) x = 1 := by simp [footP, ne]
      omega
    | false =>
      rw [hg] at e
      have eg : ¬ g = f := fun z => by subst z; simp at hg
      obtain ⟨h4, h5⟩ := fsR_re st h3 e (fun x => by have := o1 x; omega) ko hb rs
      have fb : 1 ≤ footF fs b := by
        have : ∀ (l : List (Str × P)), l.lookup f = some (.own b ds) → 1 ≤ footF l b := fun l => by
          induction l with
          | nil => intro z; simp at z
          | cons y l ih =>
            intro z
            obtain ⟨k, w⟩ := y
            rw [List.lookup_cons] at z
            cases hk : f == k with
            | true => rw [hk] at z; simp only [Option.some.injEq] at z; subst z; simp [footF, footP]
            | false => rw [hk] at z; have := ih z; simp only [footF]; omega
        exact this fs e
      simp only [putP, if_neg eg]
      refine ⟨⟨u, _, rfl, h2.stay st (Ext.refl ρ) fun x o z w => ko x o (fun ne => ?_) w, h4⟩, fun x => by simp only [footF, h5]⟩
      have := o1 x
      rw [ne] at z this
      omega
theorem lput_ok {p : P} {x : V} {nw : List D} {C : Sl → Mu → Prop} (ho : Hold K ρ μ δ σ H) (r : PR K ρ H p x) (c : lput p δ μ nw C) :
    ∃ a xs ds δ' μ', x = .ref a ∧ H a = some (.lst xs) ∧ lget δ μ p = some ds ∧ Reps K ρ H ds xs ∧ C δ' μ' ∧ ∀ ys, Reps K ρ H nw ys → Evo K (footB ρ μ δ) ρ H ρ μ' (upd H a (.lst ys)) (footS δ') ∧ SS K ρ (upd H a (.lst ys)) δ' σ := by
  have stOf : ∀ {a : Addr} {xs ys : List V}, H a = some (.lst xs) → Stay H (upd H a (.lst ys)) := fun {a xs ys} e b u q f => by
    rw [upd_ne]
    · exact q
    · intro z
      rw [z, e] at q
      cases q
      exact f
  cases p with
  | val d =>
    cases d with
    | ref n =>
      simp only [lput] at c
      split at c
      · rename_i ds q
        simp only [PR, Rep] at r
        obtain ⟨a, rfl, h2⟩ := r
        obtain ⟨b, h3, xs, h4, h5⟩ := ho.sm.obj n _ q
        rw [h2] at h3
        cases h3
        refine ⟨a, xs, ds, δ, _, rfl, h4, by simp only [lget, q], h5, c, fun ys ry => ?_⟩
        have e := Evo.set (o' := .lst nw) (u := .lst ys) (Fi := F0) (Fo := F0) ho.sm (fun x => by have := ho.le x; have z : F0 x = 0 := rfl; omega) h2 q (fun x => Nat.le_refl _) fun st ko => ⟨ys, upd_same, ry.stay st (Ext.refl ρ)⟩
        have e' : Evo K (footM ρ μ) ρ H ρ (μ.set n (.lst nw)) (upd H a (.lst ys)) F0 := ⟨e.sm, e.ext, fun b o q z => e.keep b o q (by show F0 b + footM ρ μ b = 0; rw [z]), fun b q => by
          rcases e.grow b q with t | t
          · exact .inl (by have t' : 1 ≤ F0 b + footM ρ μ b := t; have z : F0 b = 0 := rfl; omega)
          · exact .inr t, e.one⟩
        exact ⟨(ho.evoB e').less fun x => by omega, (ho.after e').ss⟩
      · exact c.elim
    | _ => exact c.elim
  | own a ds => exact c.elim
  | bor a pl =>
    have r' : x = .ref a := r
    cases pl with
    | slot i =>
      simp only [lput] at c
      split at c
      · rename_i b ds q
        obtain ⟨rfl, c⟩ := c
        obtain ⟨v, h1, hv, xs, h2, h3⟩ := ho.ss.at_ i _ q
        refine ⟨b, xs, ds, _, μ, r', h2, by simp only [lget, q, if_true], h3, c, fun ys ry => ?_⟩
        have st := stOf (ys := ys) h2
        have fb := footS_at b q
        have fb' : footP (.own b ds) b = 1 := by simp [footP]
        have o1 := ho.one b
        have fs : ∀ x, footS (δ.set i (some (.own b nw))) x = footS δ x := fun x => by
          have := footS_set (some (.own b nw)) x q
          simp [footP] at this
          omega
        have ne : ∀ c, footS δ c + footM ρ μ c = 0 → upd H b (.lst ys) c = H c := fun c z => upd_ne fun w => by rw [w] at z; omega
        refine ⟨⟨ho.sm.stay st fun c o z w => by rw [upd_ne (fun t => by rw [t] at z; omega)]; exact w, Ext.refl ρ, fun c o z w => by rw [ne c w]; exact z, fun c z => .inl (by rw [fs] at z; exact z), fun c => by rw [fs]; exact ho.one c⟩, ?_⟩
        refine ⟨by simp [ho.ss.len], fun j w e => ?_⟩
        by_cases hj : i = j
        · subst hj
          rw [List.getElem?_set_self (List.getElem?_eq_some_iff.mp q).1] at e
          cases e
          exact ⟨v, h1, hv, ys, upd_same, ry.stay st (Ext.refl ρ)⟩
        · rw [List.getElem?_set_ne hj] at e
          obtain ⟨u, g1, g2⟩ := ho.ss.at_ j w e
          refine ⟨u, g1, g2.stay st (Ext.refl ρ) fun c o z t => ?_⟩
          rw [upd_ne]
          · exact t
          · intro w2
            have := footS_set (none : Option P) b q
            simp at this
            have h6 : (δ.set i none)[j]? = some (some w) := by rw [List.getElem?_set_ne hj]; exact e
            have := footS_at b h6
            rw [w2] at z
            omega
      · exact c.elim
    | fld n f =>
      simp only [lput] at c
      split at c
      · rename_i cc fs q
        split at c
        · rename_i b ds q2
          obtain ⟨rfl, c⟩ := c
          obtain ⟨a, hρ, dx, vs, h4, h5⟩ := ho.sm.obj n _ q
          obtain ⟨v, h6, hv, xs, h7, h8⟩ := fs_lookup h5 q2
          refine ⟨b, xs, ds, δ, _, r', h7, by simp only [lget, q, q2, if_true], h8, c, fun ys ry => ?_⟩
          have st := stOf (ys := ys) h7
          have am := footM_at (x := b) hρ q
          have fF : 1 ≤ footF fs b := by
            have : ∀ (l : List (Str × P)), l.lookup f = some (.own b ds) → 1 ≤ footF l b := fun l => by
              induction l with
              | nil => intro z; simp at z
              | cons y l ih =>
                intro z
                obtain ⟨k, w⟩ := y
                rw [List.lookup_cons] at z
                cases hk : f == k with
                | true => rw [hk] at z; simp only [Option.some.injEq] at z; subst z; simp [footF, footP]
                | false => rw [hk] at z; have := ih z; simp only [footF]; omega
            exact this fs q2
          have o1 := ho.one b
          have nab : a ≠ b := fun z => by
            rw [z] at am
            simp [footO] at am
            omega
          have fm := fun x => footM_set ρ μ n _ (.ins cc (putP f (.own b nw) fs)) x ho.sm.len q
          have ff : ∀ x, footF fs x ≤ 1 := fun x => by
            have := footM_at (x := x) hρ q
            have := ho.one x
            simp only [footO] at *
            omega
          obtain ⟨k1, k2⟩ := fsR_re (ρ := ρ) (nw := nw) (ys := ys) st h5 q2 ff (fun x o ne w => by rw [upd_ne ne]; exact w) upd_same (ry.stay st (Ext.refl ρ))
          have fe : ∀ x, footM ρ (μ.set n (.ins cc (putP f (.own b nw) fs))) x = footM ρ μ x := fun x => by
            have := fm x
            simp only [footO, k2] at this
            omega
          have am' : 1 ≤ footM ρ μ b := by simp only [footO] at am; omega
          have e' : Evo K (footM ρ μ) ρ H ρ (μ.set n (.ins cc (putP f (.own b nw) fs))) (upd H b (.lst ys)) F0 := by
            refine ⟨⟨by rw [List.length_set]; exact ho.sm.len, fun m w e => ?_⟩, Ext.refl ρ, fun y o z w => ?_, fun y z => .inl ?_, fun y => ?_⟩
            · by_cases hm : m = n
              · subst hm
                rw [List.getElem?_set_self (List.getElem?_eq_some_iff.mp q).1] at e
                cases e
                exact ⟨a, hρ, dx, vs, by rw [upd_ne nab]; exact h4, k1⟩
              · rw [List.getElem?_set_ne (Ne.symm hm)] at e
                obtain ⟨y, e1, e2⟩ := ho.sm.obj m w e
                refine ⟨y, e1, e2.stay st (Ext.refl ρ) fun z u z1 z2 => ?_⟩
                rw [upd_ne]
                · exact z2
                · intro t
                  subst t
                  have := footM_two z (Ne.symm hm) hρ q e1 e
                  have := ho.one z
                  simp only [footO] at *
                  rcases z1 with z1 | z1
                  · rw [if_pos z1] at *
                    omega
                  · omega
            · rw [upd_ne (fun t => by rw [t] at w; omega)]
              exact z
            · rw [fe] at z
              have t : F0 y = 0 := rfl
              omega
            · rw [fe]
              have := ho.le y
              have t : F0 y = 0 := rfl
              omega
          exact ⟨(ho.evoB e').less fun x => by omega, (ho.after e').ss⟩
        · exact c.elim
      · exact c.elim
end
end NT

/-! NT: items stored, tuples taken apart, assignments, op=, blocks, if, return, append. -/
namespace NT
open PySem PySem.Spec PyProof.Rows L2

section
variable {K : PySem.W.Frag} {W : WX} {ρ ρ1 ρ2 : List Addr} {μ μ1 μ2 : Mu} {δ δ1 : Sl} {σ σ1 : L2.St} {H H1 H2 : Hp} {F G B : Addr → Nat} {E : CX}
/-- a result waits through a further step: both are held -/
theorem Evo.waitF (a : Evo K B ρ H ρ1 μ1 H1 F) (b : Evo K (footM ρ1 μ1) ρ1 H1 ρ2 μ2 H2 G) (k : ∀ x, 1 ≤ F x → ∃ o, H1 x = some o) : Evo K B ρ H ρ2 μ2 H2 (fun x => F x + G x) := by
  have t := a.transM b
  have f := b.frame (R := F) k fun x => a.one x
  refine ⟨t.sm, t.ext, t.keep, fun x q => ?_, fun x => by have := f.one x; omega⟩
  by_cases w : 1 ≤ F x
  · exact a.grow x (by omega)
  · exact t.grow x (by omega)
theorem PRs.foot : ∀ {ps : List P} {vs : List V} {x : Addr}, PRs K ρ H ps vs → 1 ≤ footL ps x → ∃ xs, H x = some (.lst xs)
  | [], _, _, _, q => by simp [footL] at q
  | p :: r, _, x, h, q => by
    obtain ⟨v, t, rfl, h2, h3⟩ := h
    simp only [footL] at q
    by_cases z : 1 ≤ footP p x
    · exact h2.foot z
    · exact PRs.foot h3 (by omega)
theorem PRs.stay (k : Stay H H1) (e : Ext ρ ρ1) : ∀ {ps : List P} {vs : List V}, (∀ a o, 1 ≤ footL ps a → H a = some o → H1 a = some o) → PRs K ρ H ps vs → PRs K ρ1 H1 ps vs
  | [], _, _, h => h
  | p :: r, _, ko, h => by
    obtain ⟨v, t, rfl, h2, h3⟩ := h
    exact ⟨v, t, rfl, h2.stay k e fun a o z => ko a o (by simp only [footL]; omega), PRs.stay k e (fun a o z => ko a o (by simp only [footL]; omega)) h3⟩
theorem PRs.len : ∀ {ps : List P} {vs : List V}, PRs K ρ H ps vs → ps.length = vs.length
  | [], _, h => by have h' : _ = [] := h; subst h'; rfl
  | p :: r, _, h => by
    obtain ⟨v, t, rfl, _, h3⟩ := h
    simp [PRs.len h3]
theorem prs_vals : ∀ {ds : List D} {vs : List V}, Reps K ρ H ds vs → PRs K ρ H (ds.map P.val) vs
  | [], _, h => by simp only [Reps] at h; exact h
  | d :: ds, _, h => by
    simp only [Reps] at h
    obtain ⟨v, r, rfl, h2, h3⟩ := h
    exact ⟨v, r, rfl, h2, prs_vals h3⟩
theorem footL_vals (ds : List D) (x : Addr) : footL (ds.map P.val) x = 0 := by
  induction ds with
  | nil => rfl
  | cons d r ih => simp only [List.map_cons, footL, footP, ih]
end
/-! ### xs[i] = v -/
def gIx (fo fi : FE) : FG := fun p δ μ C E => match p with
  | .val d => fo δ μ (fun q μ1 => fi δ μ1 (fun r μ2 => match r with
    | .val (.int k) => (match lget δ μ2 q with
      | some ds => (match ixN ds.length k with
        | some j => lput q δ μ2 (ds.set j d) C
        | none => False)
      | none => False)
    | _ => False) (fun x μ' => E x δ μ')) (fun x μ' => E x δ μ')
  | _ => False
theorem g_ix {X : Cx} {W : WX} {pos : Pos} {o i : Expr} {fo fi : FE} (ho : EF X W o fo) (hi : EF X W i fi) (ha : ∀ v, assign (.Subscript o i pos) X.env v = (do
      let ov ← holding [v] (eval o X.env)
      let iv ← holding [v, ov] (eval i X.env)
      standAt pos
      holding [v, ov, iv] (setItem ov iv v)
      release [v, ov, iv] []) := by intro _; rfl) : GF X W (.Subscript o i pos) (gIx fo fi) := by
  refine pg_imp (pg_sub ho hi set_list ha) fun v σ H Q ⟨ρ, μ, δ, p, C, E, hh, rp, one, c, hC, hX⟩ => ?_
  cases p with
  | val d =>
    have b0 : ∀ {ρ' : List Addr} {μ' : Mu} {H' : Hp} {F : Addr → Nat}, Evo X.K (footB ρ μ δ) ρ H ρ' μ' H' F → Evo X.K (footP1 (.val d) ρ μ δ) ρ H ρ' μ' H' F := fun {ρ' μ' H' F} e => by
      have z : footP1 (.val d) ρ μ δ = footB ρ μ δ := by funext x; show footP (.val d) x + _ = _; simp [footP]
      rw [z]
      exact e
    have xo : XOut X.K W ρ μ σ H (fun x μ' => E x δ μ') := fun x μ' q ρ' H' cls d e r => hX x δ μ' q ρ' σ H' cls d (b0 ((hh.evoB e).less fun y => by omega)) (hh.after e).ss r
    refine ⟨ρ, μ, δ, _, _, hh, c, fun q μ1 c1 ρ1 H1 v1 e1 r1 => ?_, xo⟩
    refine ⟨ρ1, μ1, δ, _, _, hh.after e1, c1, fun r μ2 c2 ρ2 H2 v2 e2 r2 => ?_, xo.after e1⟩
    obtain ⟨r1', _⟩ := e1.wait r1 e2
    have h2 := (hh.after e1).after e2
    have e12 := e1.drop.transM e2
    split at c2
    · split at c2
      · rename_i k ds hl
        split at c2
        · rename_i j hj
          obtain ⟨a, xs, ds', δ', μ', rfl, ha', hl', rs, c3, step⟩ := lput_ok h2 r1' c2
          rw [hl] at hl'
          cases hl'
          have rd : Rep X.K ρ2 H2 d v := Rep.stay (e12.stayM hh.sm) e12.ext d v rp
          obtain ⟨ev, ss⟩ := step (xs.set j v) (reps_set j rs rd)
          refine ⟨a, xs, _, j, rfl, pr_int r2, ha', by rw [← reps_len rs]; exact hj, ?_⟩
          exact hC δ' μ' c3 ρ2 σ _ (b0 (((hh.evoB e12).less (G := footS δ) fun y => by omega).transS ev)) ss
        · exact c2.elim
      · exact c2.elim
    · exact c2.elim
  | own a ds => exact c.elim
  | bor a pl => exact c.elim
/-! ### several targets, tuples taken apart -/
def liftGs (K : PySem.W.Frag) (W : WX) (g : FGs) : TGs := fun vs σ H Q => ∃ ρ μ δ ps C E, Hold K ρ μ δ σ H ∧ PRs K ρ H ps vs ∧ (∀ x, footL1 ps ρ μ δ x ≤ 1) ∧ g ps δ μ C E ∧
  (∀ δ' μ', C δ' μ' → ∀ ρ' σ' H', Evo K (footL1 ps ρ μ δ) ρ H ρ' μ' H' (footS δ') → SS K ρ' H' δ' σ' → Q σ' H') ∧ XOutS K W (footL1 ps ρ μ δ) ρ H E
def GsF (X : Cx) (W : WX) (es : List Expr) (g : FGs) : Prop := PGs X es (liftGs X.K W g)
def gsNil : FGs := fun ps δ μ C _ => ps = [] ∧ C δ μ
def gsCons (g : FG) (r : FGs) : FGs := fun ps δ μ C E => match ps with
  | p :: t => g p δ μ (fun δ' μ' => r t δ' μ' C E) E
  | [] => False
theorem pgs_imp {X : Cx} {e : List Expr} {t t' : TGs} (h : PGs X e t) (i : ∀ v σ H Q, t' v σ H Q → t v σ H Q) : PGs X e t' := ⟨fun pins s σ H v u Q I r q => h.run pins s σ H v u Q I r (i v σ H Q q)⟩
theorem gs_nil {X : Cx} {W : WX} : GsF X W [] gsNil := pgs_imp pgs_nil fun vs σ H Q ⟨ρ, μ, δ, ps, C, E, ho, r, one, c, hC, hX⟩ => by
  obtain ⟨rfl, c⟩ := c
  have r' : vs = [] := r
  refine ⟨r', hC δ μ c ρ σ H ?_ ho.ss⟩
  have z : footL1 [] ρ μ δ = footB ρ μ δ := by funext x; show footL [] x + _ = _; simp [footL]
  rw [z]
  exact ho.reflS
theorem gs_cons {X : Cx} {W : WX} {e : Expr} {es : List Expr} {g : FG} {r : FGs} (h1 : GF X W e g) (h2 : GsF X W es r)
    (hs : (assignEach (e :: es) X.env).map (·.2) = assign e X.env :: (assignEach es X.env).map (·.2) := by rfl) : GsF X W (e :: es) (gsCons g r) := by
  refine pgs_imp (pgs_cons h1 h2 hs) fun vs σ H Q ⟨ρ, μ, δ, ps, C, E, ho, rp, one, c, hC, hX⟩ => ?_
  cases ps with
  | nil => exact c.elim
  | cons p t =>
    obtain ⟨v, ws, rfl, r1, r2⟩ := rp
    have one' : ∀ x, footP p x + footL t x + (footS δ x + footM ρ μ x) ≤ 1 := one
    have kind : ∀ x, 1 ≤ footL t x → ∃ o, H x = some o := fun x q => let ⟨xs, e⟩ := r2.foot q; ⟨_, e⟩
    have kb : ∀ x, 1 ≤ footP1 p ρ μ δ x → ∃ o, H x = some o ∧ ¬ Fixed o := fun x q => by
      by_cases z : 1 ≤ footP p x
      · obtain ⟨xs, e⟩ := r1.foot z
        exact ⟨_, e, fun w => w⟩
      · have q' : 1 ≤ footP p x + (footS δ x + footM ρ μ x) := q
        exact ho.foot (show 1 ≤ footS δ x + footM ρ μ x by omega)
    have up : ∀ {ρ' : List Addr} {μ' : Mu} {H' : Hp} {F : Addr → Nat}, Evo X.K (footP1 p ρ μ δ) ρ H ρ' μ' H' F → Evo X.K (footL1 (p :: t) ρ μ δ) ρ H ρ' μ' H' (fun x => F x + footL t x) := fun {ρ' μ' H' F} e => by
      have f := e.frame (R := footL t) kind fun x => by have := one' x; show footL t x + (footP p x + (footS δ x + footM ρ μ x)) ≤ 1; omega
      have z : footL1 (p :: t) ρ μ δ = fun x => footL t x + footP1 p ρ μ δ x := by
        funext x
        show footP p x + footL t x + (footS δ x + footM ρ μ x) = footL t x + (footP p x + (footS δ x + footM ρ μ x))
        omega
      rw [z]
      exact f
    refine ⟨v, ws, rfl, ρ, μ, δ, p, _, E, ho, r1, fun x => by have := one' x; show footP p x + (footS δ x + footM ρ μ x) ≤ 1; omega, c, fun δ1 μ1 c1 ρ1 σ1 H1 e1 s1 => ?_, fun x δ' μ' q ρ' σ' H' cls d e2 s2 r3 => hX x δ' μ' q ρ' σ' H' cls d ((up e2).less fun y => by omega) s2 r3⟩
    have e1' := up e1
    have ho1 : Hold X.K ρ1 μ1 δ1 σ1 H1 := Hold.mk' e1 s1
    have rt : PRs X.K ρ1 H1 t ws := r2.stay (e1.stay kb) e1.ext fun a o z w => e1.keep a o w (by show footP p a + (footS δ a + footM ρ μ a) = 0; have := one' a; omega)
    have base : ∀ x, 1 ≤ footL1 t ρ1 μ1 δ1 x → 1 ≤ (footS δ1 x + footL t x) + footM ρ1 μ1 x := fun x q => by
      have q' : 1 ≤ footL t x + (footS δ1 x + footM ρ1 μ1 x) := q
      omega
    refine ⟨ρ1, μ1, δ1, t, C, E, ho1, rt, fun x => by have := e1'.one x; show footL t x + (footS δ1 x + footM ρ1 μ1 x) ≤ 1; omega, c1, fun δ' μ' c2 ρ' σ' H' e2 s2 => hC δ' μ' c2 ρ' σ' H' (e1'.trans e2 base) s2, fun x δ' μ' q ρ' σ' H' cls d e2 s2 r3 => hX x δ' μ' q ρ' σ' H' cls d (e1'.trans e2 base) s2 r3⟩
/-- a tuple's parts to targets -/
def gTp (n : Nat) (gs : FGs) : FG := fun p δ μ C E => match p with
  | .val (.tup ds) => ds.length = n ∧ gs (ds.map P.val) δ μ C E
  | _ => False
theorem g_tp {X : Cx} {W : WX} {pos : Pos} {es : List Expr} {k n : Nat} {gs : FGs} (hc : X.calm = true) (h : GsF X W es gs) (hn : (assignEach es X.env).length = n := by rfl) (hst : (assignEach es X.env).findIdx? (·.1) = none := by rfl) : GF X W (.Tuple es k pos) (gTp n gs) :=
  pg_imp (pg_tup hc h hn hst) fun v σ H Q ⟨ρ, μ, δ, p, C, E, ho, rp, one, c, hC, hX⟩ => by
    unfold gTp at c
    split at c
    · rename_i ds
      obtain ⟨a, xs, rfl, e2, e3⟩ := pr_tup rp
      have z : footL1 (ds.map P.val) ρ μ δ = footP1 (.val (.tup ds)) ρ μ δ := by
        funext x
        show footL (ds.map P.val) x + _ = footP (.val (.tup ds)) x + _
        rw [footL_vals]
        simp [footP]
      exact ⟨a, xs, rfl, e2.seq, by rw [← reps_len e3]; exact c.1, ρ, μ, δ, _, C, E, ho, prs_vals e3, by rw [z]; exact one, c.2, by rw [z]; exact hC, by rw [z]; exact hX⟩
    · exact c.elim
/-! ### rows with lists that stand alone -/
abbrev FL := Sl → Mu → (List P → Mu → Prop) → CX → Prop
def liftL (K : PySem.W.Frag) (W : WX) (f : FL) : TA := fun σ H Q => ∃ ρ μ δ C E, Hold K ρ μ δ σ H ∧ f δ μ C E ∧ (∀ ps μ', C ps μ' → ∀ ρ' H' vs, Evo K (footM ρ μ) ρ H ρ' μ' H' (footL ps) → PRs K ρ' H' ps vs → Q vs H') ∧ XOut K W ρ μ σ H E
def LF (X : Cx) (W : WX) (es : List Expr) (f : FL) : Prop := PA X es (liftL X.K W f)
def lNil : FL := fun _ μ C _ => C [] μ
def lCons (f : FE) (r : FL) : FL := fun δ μ C E => f δ μ (fun p μ1 => r δ μ1 (fun ps μ2 => C (p :: ps) μ2) E) E
theorem l_nil {X : Cx} {W : WX} : LF X W [] lNil := pa_imp pa_nil fun σ H Q ⟨ρ, μ, δ, C, E, ho, c, hC, hX⟩ => hC _ μ c ρ H [] (ho.refl.less fun x => by simp [footL]) rfl
theorem l_cons {X : Cx} {W : WX} {e : Expr} {es : List Expr} {f : FE} {r : FL} (ha : EF X W e f) (hr : LF X W es r) (hs : starEach (e :: es) X.env = (false, eval e X.env) :: starEach es X.env := by rfl) : LF X W (e :: es) (lCons f r) :=
  pa_imp (pa_cons ha hr hs) fun σ H Q ⟨ρ, μ, δ, C, E, ho, c, hC, hX⟩ =>
  ⟨ρ, μ, δ, _, E, ho, c, fun p μ1 c1 ρ1 H1 v1 e1 r1 => by
    refine ⟨ρ1, μ1, δ, _, E, ho.after e1, c1, fun ps μ2 c2 ρ2 H2 vs e2 r2 => ?_, hX.after e1⟩
    obtain ⟨r1', _⟩ := e1.wait r1 e2
    exact hC _ μ2 c2 ρ2 H2 _ (e1.waitF e2 fun x q => let ⟨xs, e⟩ := r1.foot q; ⟨_, e⟩) ⟨v1, vs, rfl, r1', r2⟩, hX⟩
/-- the lists of slots among them are moved -/
def mvL : List P → Sl → (List P → Sl → Prop) → Prop
  | [], δ, C => C [] δ
  | p :: r, δ, C => moved δ (fun p' δ' => mvL r δ' fun r' δ2 => C (p' :: r') δ2) p
theorem moved_ok {K : PySem.W.Frag} {ρ : List Addr} {H : Hp} {δ : Sl} {σ : L2.St} {p : P} {v : V} {C : P → Sl → Prop} (ss : SS K ρ H δ σ) (r : PR K ρ H p v) (c : moved δ C p) :
    ∃ p' δ', PR K ρ H p' v ∧ SS K ρ H δ' σ ∧ (∀ x, footP p' x + footS δ' x ≤ footP p x + footS δ x) ∧ C p' δ' := by
  cases p with
  | val d => exact ⟨_, δ, r, ss, fun x => Nat.le_refl _, c⟩
  | own a ds => exact ⟨_, δ, r, ss, fun x => Nat.le_refl _, c⟩
  | bor a pl =>
    cases pl with
    | fld n f => exact c.elim
    | slot i =>
      simp only [moved] at c
      split at c
      · rename_i b ds q
        obtain ⟨rfl, c⟩ := c
        obtain ⟨w, g1, g2⟩ := ss.at_ i _ q
        have hv : v = .ref b := r
        refine ⟨.own b ds, _, ⟨hv, g2.2⟩, ss.forget i, fun x => ?_, c⟩
        have := footS_set (none : Option P) x q
        simp at this
        omega
      · exact c.elim
theorem mvL_ok {K : PySem.W.Frag} {ρ : List Addr} {H : Hp} : ∀ {ps : List P} {vs : List V} {δ : Sl} {σ : L2.St} {C : List P → Sl → Prop}, SS K ρ H δ σ → PRs K ρ H ps vs → mvL ps δ C →
    ∃ ps' δ', PRs K ρ H ps' vs ∧ SS K ρ H δ' σ ∧ (∀ x, footL ps' x + footS δ' x ≤ footL ps x + footS δ x) ∧ C ps' δ'
  | [], _, δ, _, _, ss, r, c => ⟨[], δ, r, ss, fun x => Nat.le_refl _, c⟩
  | p :: t, _, δ, _, _, ss, r, c => by
    obtain ⟨v, ws, rfl, r1, r2⟩ := r
    obtain ⟨p', δ1, a1, a2, a3, a4⟩ := moved_ok ss r1 c
    obtain ⟨t', δ2, b1, b2, b3, b4⟩ := mvL_ok a2 r2 a4
    refine ⟨p' :: t', δ2, ⟨v, ws, rfl, a1, b1⟩, b2, fun x => ?_, b4⟩
    have := a3 x
    have := b3 x
    simp only [footL]
    omega
/-! ### statements -/
def fNil : FS := fun D δ μ => D.nx δ μ
/-- one after the other; M may be chosen between them -/
def fCons (a b : FS) : FS := fun D δ μ => ∃ M : Sl → Mu → Prop, a { D with nx := M } δ μ ∧ ∀ δ' μ', M δ' μ' → b D δ' μ'
theorem fCons.go {a b : FS} {D : FD} {δ : Sl} {μ : Mu} (h : a { D with nx := b D } δ μ) : fCons a b D δ μ := ⟨_, h, fun _ _ h => h⟩
def fAsg (f : FE) (g : FG) : FS := fun D δ μ => f δ μ (fun p μ1 => g p δ μ1 D.nx D.ex) (fun x μ1 => D.ex x δ μ1)
def fPar (n : Nat) (l : FL) (gs : FGs) : FS := fun D δ μ => l δ μ (fun ps μ1 => (ps.length = n ∧ n ≤ sizeLine) ∧ mvL ps δ fun ps' δ' => gs ps' δ' μ1 D.nx D.ex) (fun x μ1 => D.ex x δ μ1)
def fPar2 (i j : Nat) (l : FL) : FS := fun D δ μ => l δ μ (fun ps μ1 => mvL ps δ fun ps' δ' => match ps' with | [p, q] => D.nx ((δ'.set i (some p)).set j (some q)) μ1 | _ => False) (fun x μ1 => D.ex x δ μ1)
def fPar3 (i j k : Nat) (l : FL) : FS := fun D δ μ => l δ μ (fun ps μ1 => mvL ps δ fun ps' δ' => match ps' with | [p, q, r] => D.nx (((δ'.set i (some p)).set j (some q)).set k (some r)) μ1 | _ => False) (fun x μ1 => D.ex x δ μ1)
def fIfS (t : FT) (a b : FS) : FS := fun D δ μ => t δ μ (fun k μ1 => if k = true then a D δ μ1 else b D δ μ1) (fun x μ1 => D.ex x δ μ1)
def fRet (f : FE) : FS := fun D δ μ => f δ μ (fun p μ1 => match p with
  | .bor a (.slot i) => (match δ[i]? with
    | some (some (.own b ds)) => b = a ∧ D.rt (.own b ds) μ1
    | _ => False)
  | p => D.rt p μ1) (fun x μ1 => D.ex x δ μ1)
def fRetN : FS := fun D _ μ => D.rt (.val .non) μ
def fDrop (f : FE) : FS := fun D δ μ => f δ μ (fun _ μ1 => D.nx δ μ1) (fun x μ1 => D.ex x δ μ1)
def fBreak : FS := fun D δ μ => D.bk δ μ
def fCont : FS := fun D δ μ => D.ct δ μ
def fAugN (i : Nat) (m : M2) (f : FE) : FS := fun D δ μ => match δ[i]? with
  | some (some (.val d)) => f δ μ (fun q μ1 => m (.val d) q δ μ1 fun r μ2 => D.nx (δ.set i (some r)) μ2) (fun x μ1 => D.ex x δ μ1)
  | _ => False
def fAugF (K : PySem.W.Frag) (g : Str) (m : M2) (fo f : FE) : FS := fun D δ μ => fo δ μ (fun p μ1 => match p with
  | .val (.ref n) => (match μ1[n]? with
    | some (.ins c fs) => FOk K c g ∧ (match fs.lookup g with
      | some (.val d) => f δ μ1 (fun q μ2 => m (.val d) q δ μ2 fun r μ3 => match r, μ3[n]? with
        | .val d', some (.ins c' fs') => (c' = c ∧ fs'.length < 1000) ∧ D.nx δ (μ3.set n (.ins c (putP g (.val d') fs')))
        | _, _ => False) (fun x μ2 => D.ex x δ μ2)
      | _ => False)
    | _ => False)
  | _ => False) (fun x μ1 => D.ex x δ μ1)
/-- o.append(e) -/
def fApp (fo f : FE) : FS := fun D δ μ => fo δ μ (fun p μ1 => (lgetR δ μ1 p).isSome = true ∧ f δ μ1 (fun q μ2 => asD q fun d => match lget δ μ2 p with
  | some ds => ds.length < sizeLine ∧ lput p δ μ2 (ds ++ [d]) D.nx
  | none => False) (fun x μ2 => D.ex x δ μ2)) (fun x μ1 => D.ex x δ μ1)
section
variable {X : Cx} {W : WX} {pos : Pos} {a b : FS} {st : Stmt} {rest : List Stmt} {e tg : Expr} {f : FE} {g : FG}
theorem b_nil : BF X W [] fNil := pss_imp pss_nil fun D σ H ⟨ρ, μ, δ, D', ho, c, k⟩ => k.nx δ μ c ρ σ H ho.reflS ho.ss
theorem b_cons (h1 : SF X W st a) (h2 : BF X W rest b) : BF X W (st :: rest) (fCons a b) := pss_imp (pss_cons h1 h2) fun D σ H ⟨ρ, μ, δ, D', ho, ⟨M, c1, c2⟩, k⟩ =>
  ⟨ρ, μ, δ, { D' with nx := M }, ho, c1, ⟨fun δ1 μ1 m ρ1 σ1 H1 e1 s1 => ⟨ρ1, μ1, δ1, D', Hold.mk' e1 s1, c2 δ1 μ1 m, k.after e1⟩, k.bk, k.ct, k.rt, k.ex⟩⟩
theorem b_one (h1 : SF X W st a) : BF X W [st] a := pss_imp (pss_one h1) fun D σ H h => h
theorem s_asg (he : EF X W e f) (hg : GF X W tg g) (hs : swapsWithSole [tg] e pos.line X.env = pure false := by rfl) (hw : swappedStores [tg] e X.env = pure none := by rfl)
    (h1 : (assignEach [tg] X.env).map (·.2) = [assign tg X.env] := by rfl) : SF X W (.Assign [tg] e pos) (fAsg f g) := ps_imp (ps_asg he hg hs hw h1) fun D σ H ⟨ρ, μ, δ, D', ho, c, k⟩ =>
  ⟨ρ, μ, δ, _, _, ho, c, fun p μ1 c1 ρ1 H1 v e1 r => by
    have ho1 := ho.after e1
    have eb := ho.evoB e1
    have z : (fun x => footP p x + footS δ x) = fun x => footP p x + footS δ x := rfl
    have base : ∀ x, 1 ≤ footP1 p ρ1 μ1 δ x → 1 ≤ (footP p x + footS δ x) + footM ρ1 μ1 x := fun x q => by
      have q' : 1 ≤ footP p x + (footS δ x + footM ρ1 μ1 x) := q
      omega
    exact ⟨ρ1, μ1, δ, p, _, _, ho1, r, fun x => by have := eb.one x; show footP p x + (footS δ x + footM ρ1 μ1 x) ≤ 1; omega, c1, fun δ' μ' c2 ρ' σ' H' e2 s2 => k.nx δ' μ' c2 ρ' σ' H' (eb.trans e2 base) s2,
      fun x δ' μ' q ρ' σ' H' cls d e2 s2 r2 => k.ex x δ' μ' q ρ' σ' H' cls d (eb.trans e2 base) s2 r2⟩, k.xout ho⟩
theorem s_if {c : Expr} {s1 s2 : List Stmt} {t : FT} (hc : TF X W c t) (ha : BF X W s1 a) (hb : BF X W s2 b) : SF X W (.If c s1 s2 pos) (fIfS t a b) := ps_imp (ps_if hc ha hb) fun D σ H ⟨ρ, μ, δ, D', ho, c, k⟩ =>
  ⟨ρ, μ, δ, _, _, ho, c, fun q μ1 c1 ρ1 H1 e1 => by
    cases q with
    | true => exact ⟨ρ1, μ1, δ, D', ho.after e1, c1, k.afterE ho e1⟩
    | false => exact ⟨ρ1, μ1, δ, D', ho.after e1, c1, k.afterE ho e1⟩, k.xout ho⟩
theorem s_ret (he : EF X W e f) : SF X W (.Return (some e) pos) (fRet f) := ps_imp (ps_ret he) fun D σ H ⟨ρ, μ, δ, D', ho, c, k⟩ =>
  ⟨ρ, μ, δ, _, _, ho, c, fun p μ1 c1 ρ1 H1 v e1 r => by
    have eb := ho.evoB e1
    split at c1
    · rename_i a i
      split at c1
      · rename_i b ds q
        obtain ⟨rfl, c1⟩ := c1
        have hv : v = .ref b := r
        obtain ⟨w, g1, g2⟩ := (ho.after e1).ss.at_ i _ q
        refine k.rt _ μ1 c1 ρ1 H1 v (eb.less fun x => ?_) ⟨hv, g2.2⟩
        have := footS_at x q
        omega
      · exact c1.elim
    · exact k.rt p μ1 c1 ρ1 H1 v (eb.less fun x => by omega) r, k.xout ho⟩
theorem s_retN : SF X W (.Return none pos) fRetN := ps_imp ps_retN fun D σ H ⟨ρ, μ, δ, D', ho, c, k⟩ => k.rt _ μ c ρ H .non (ho.reflS.less fun x => by simp [footP]) (by simp only [PR, Rep])
theorem s_drop (he : EF X W e f) (hs : swapsWith e none pos.line X.env = pure false := by rfl) : SF X W (.Expr e pos) (fDrop f) := ps_imp (ps_expr he hs) fun D σ H ⟨ρ, μ, δ, D', ho, c, k⟩ =>
  ⟨ρ, μ, δ, _, _, ho, c, fun p μ1 c1 ρ1 H1 v e1 r => k.nx δ μ1 c1 ρ1 σ H1 ((ho.evoB e1).less fun x => by omega) (ho.after e1).ss, k.xout ho⟩
theorem s_doc {x : Str} {j : Nat} {pos' : Pos} : SF X W (.Expr (.Constant (.str x) j pos) pos') fNil := ps_imp ps_doc fun D σ H ⟨ρ, μ, δ, D', ho, c, k⟩ => k.nx δ μ c ρ σ H ho.reflS ho.ss
theorem s_pass : SF X W (.Pass pos) fNil := ps_imp ps_pass fun D σ H ⟨ρ, μ, δ, D', ho, c, k⟩ => k.nx δ μ c ρ σ H ho.reflS ho.ss
theorem s_break : SF X W (.Break pos) fBreak := ps_imp ps_break fun D σ H ⟨ρ, μ, δ, D', ho, c, k⟩ => k.bk δ μ c ρ σ H ho.reflS ho.ss
theorem s_cont : SF X W (.Continue pos) fCont := ps_imp ps_continue fun D σ H ⟨ρ, μ, δ, D', ho, c, k⟩ => k.ct δ μ c ρ σ H ho.reflS ho.ss
theorem s_augN {i : Nat} {x : Str} {op : Operator} {r : R2} {m : M2} {pos' : Pos} (hN : X.N.Nodup) (hop : OpR X (inplaceOp op) r) (br : Br2 X.K r m) (he : EF X W e f) (hi : X.N[i]? = some x := by rfl) (hx : Loc X.env.scope x := by first | exact Or.inl rfl | exact Or.inr rfl)
    (hf : X.fn x = true ∨ X.env.scope.names.lookup x = some .local := by first | exact .inl rfl | exact .inr rfl | assumption) : SF X W (.AugAssign (.Name x pos') op e pos) (fAugN i m f) := ps_imp (ps_aug hN hi hx he hop hf) fun D σ H ⟨ρ, μ, δ, D', ho, c, k⟩ => by
  unfold fAugN at c
  split at c
  · rename_i d q
    obtain ⟨v, h1, h2⟩ := ho.ss.at_ i _ q
    refine ⟨v, h1, ρ, μ, δ, _, _, ho, c, fun p μ1 c1 ρ1 H1 w e1 r1 => ?_, k.xout ho⟩
    have ho1 := ho.after e1
    have rd : PR X.K ρ1 H1 (.val d) v := Rep.stay (e1.stayM ho.sm) e1.ext d v h2
    refine br ρ1 μ1 δ σ H1 _ p v w _ _ ho1 rd r1 (fun x => by have := e1.one x; have z : footP (.val d) x = 0 := rfl; omega) c1 fun p' μ' c2 ρ2 H2 z e2 r2 => ?_
    have eb := ho1.evoB e2
    refine k.nx _ μ' c2 ρ2 _ H2 (((ho.evoB e1).less (G := footS δ) fun x => by omega).transS (eb.less fun x => ?_)) ((ho1.after e2).ss.put r2)
    have := footS_le δ i p' x
    omega
  · exact c.elim
theorem s_augF {g : Str} {o : Expr} {op : Operator} {r : R2} {m : M2} {fo : FE} {tpos : Pos} (hop : OpR X (inplaceOp op) r) (br : Br2 X.K r m) (h1 : EF X W o fo) (he : EF X W e f) : SF X W (.AugAssign (.Attribute o g tpos) op e pos) (fAugF X.K g m fo f) :=
  ps_imp (ps_fldaug h1 he hop) fun D σ H ⟨ρ, μ, δ, D', ho, c, k⟩ =>
  ⟨ρ, μ, δ, _, _, ho, c, fun p μ1 c1 ρ1 H1 v e1 r1 => by
    split at c1
    · rename_i n
      split at c1
      · rename_i cc fs q
        obtain ⟨⟨k1, k2⟩, c1⟩ := c1
        split at c1
        · rename_i d hl
          simp only [PR, Rep] at r1
          obtain ⟨a, rfl, hρ⟩ := r1
          obtain ⟨b, h3, dx, vs, h4, h5⟩ := e1.sm.obj n _ q
          rw [hρ] at h3
          cases h3
          obtain ⟨w, h6, h7⟩ := fs_lookup h5 hl
          have ho1 := ho.after e1
          refine ⟨a, cc, dx, vs, w, rfl, h4, k1, k2, h6, ρ1, μ1, δ, _, _, ho1, c1, fun p2 μ2 c2 ρ2 H2 v2 e2 r2 => ?_, (k.afterE ho e1).xout ho1⟩
          have ho2 := ho1.after e2
          have rd : PR X.K ρ2 H2 (.val d) w := Rep.stay (e2.stayM ho1.sm) e2.ext d w h7
          refine br ρ2 μ2 δ σ H2 _ p2 w v2 _ _ ho2 rd r2 (fun x => by have := e2.one x; have z : footP (.val d) x = 0 := rfl; omega) c2 fun p3 μ3 c3 ρ3 H3 z e3 r3 => ?_
          split at c3
          · rename_i d' c' fs' q3
            obtain ⟨⟨rfl, k3⟩, c3⟩ := c3
            have ho3 := ho2.after e3
            obtain ⟨b', g1, dx', vs', g2, g3⟩ := e3.sm.obj n _ q3
            rw [e3.ext n a (e2.ext n a hρ)] at g1
            cases g1
            refine ⟨dx', vs', g2, by rw [← fsR_len g3]; exact k3, ?_⟩
            have st := Evo.set (o' := .ins c' (putP g (.val d') fs')) (u := .ins c' dx' (putF g z vs')) (Fi := F0) (Fo := F0) ho3.sm (fun x => by have := ho3.le x; have z : F0 x = 0 := rfl; omega) (e3.ext n a (e2.ext n a hρ)) q3 (fun x => by
              have := footF_put g (.val d') x fs'
              simp only [footO, footP] at *
              omega) fun st ko => ⟨dx', _, upd_same, fsR_put (p := .val d') (Rep.stay st (Ext.refl _) d' z r3) (g3.stay st (Ext.refl _) _ _ fun x o q w => ko x o (by simp only [footO]; omega) w)⟩
            have st' : Evo X.K (footM ρ3 μ3) ρ3 H3 ρ3 (μ3.set n (.ins c' (putP g (.val d') fs'))) (upd H3 a (.ins c' dx' (putF g z vs'))) F0 := ⟨st.sm, st.ext, fun b o q w => st.keep b o q (by show F0 b + footM ρ3 μ3 b = 0; rw [w]), fun b q => by
              rcases st.grow b q with t | t
              · exact .inl (by have t' : 1 ≤ F0 b + footM ρ3 μ3 b := t; have z : F0 b = 0 := rfl; omega)
              · exact .inr t, st.one⟩
            have all := ((e1.drop.transM e2).drop.transM e3).drop.transM st'
            exact k.nx δ _ c3 ρ3 σ _ ((ho.evoB all).less fun x => by omega) (ho.after all).ss
          · exact c3.elim
        · exact c1.elim
      · exact c1.elim
    · exact c1.elim, k.xout ho⟩
theorem s_par2 {i j : Nat} {x y : Str} {e1 e2 : Expr} {l : FL} {px py pt : Pos} {kt k2 : Nat} {pt2 : Pos} (hc : X.calm = true) (hN : X.N.Nodup) (hl : LF X W [e1, e2] l) (hi : X.N[i]? = some x := by rfl) (hj : X.N[j]? = some y := by rfl) (hij : i ≠ j := by decide)
    (hx : X.env.scope.names.lookup x = some .local := by rfl) (hy : X.env.scope.names.lookup y = some .local := by rfl) (hw : swappedStores [.Tuple [.Name x px, .Name y py] kt pt] (.Tuple [e1, e2] k2 pt2) X.env = pure (some [x, y]) := by rfl)
    (hs : swapsWithSole [.Tuple [.Name x px, .Name y py] kt pt] (.Tuple [e1, e2] k2 pt2) pos.line X.env = pure false := by rfl) : SF X W (.Assign [.Tuple [.Name x px, .Name y py] kt pt] (.Tuple [e1, e2] k2 pt2) pos) (fPar2 i j l) :=
  ps_imp (ps_par hc hN hi hj hij hx hy hl hw hs) fun D σ H ⟨ρ, μ, δ, D', ho, c, k⟩ =>
  ⟨ρ, μ, δ, _, _, ho, c, fun ps μ1 c1 ρ1 H1 vs ev r => by
    have ho1 := ho.after ev
    have eb := ho.evoB ev
    obtain ⟨ps', δ', r', ss', le, c2⟩ := mvL_ok ho1.ss r c1
    split at c2
    · rename_i p q
      obtain ⟨v, t, rfl, r1, w, t2, rfl, r2, hn⟩ := r'
      have hn' : t2 = [] := hn
      subst hn'
      refine ⟨v, w, rfl, k.nx _ μ1 c2 ρ1 _ H1 (eb.less fun x => ?_) ((ss'.put r1).put r2)⟩
      have := le x
      have := footS_le (δ'.set i (some p)) j q x
      have := footS_le δ' i p x
      simp only [footL] at *
      omega
    · exact c2.elim, k.xout ho⟩
theorem s_par3 {i j m : Nat} {x y z : Str} {e1 e2 e3 : Expr} {l : FL} {px py pz pt : Pos} {kt k2 : Nat} {pt2 : Pos} (hc : X.calm = true) (hN : X.N.Nodup) (hl : LF X W [e1, e2, e3] l) (hi : X.N[i]? = some x := by rfl) (hj : X.N[j]? = some y := by rfl) (hm : X.N[m]? = some z := by rfl) (hij : i ≠ j := by decide) (him : i ≠ m := by decide) (hjm : j ≠ m := by decide)
    (hx : X.env.scope.names.lookup x = some .local := by rfl) (hy : X.env.scope.names.lookup y = some .local := by rfl) (hz : X.env.scope.names.lookup z = some .local := by rfl)
    (hw : swappedStores [.Tuple [.Name x px, .Name y py, .Name z pz] kt pt] (.Tuple [e1, e2, e3] k2 pt2) X.env = pure (some [x, y, z]) := by rfl)
    (hs : swapsWithSole [.Tuple [.Name x px, .Name y py, .Name z pz] kt pt] (.Tuple [e1, e2, e3] k2 pt2) pos.line X.env = pure false := by rfl) : SF X W (.Assign [.Tuple [.Name x px, .Name y py, .Name z pz] kt pt] (.Tuple [e1, e2, e3] k2 pt2) pos) (fPar3 i j m l) :=
  ps_imp (ps_par3 hc hN hi hj hm hij him hjm hx hy hz hl hw hs) fun D σ H ⟨ρ, μ, δ, D', ho, c, k⟩ =>
  ⟨ρ, μ, δ, _, _, ho, c, fun ps μ1 c1 ρ1 H1 vs ev r => by
    have ho1 := ho.after ev
    have eb := ho.evoB ev
    obtain ⟨ps', δ', r', ss', le, c2⟩ := mvL_ok ho1.ss r c1
    split at c2
    · rename_i p q s
      obtain ⟨v, t, rfl, r1, w, t2, rfl, r2, u, t3, rfl, r3, hn⟩ := r'
      have hn' : t3 = [] := hn
      subst hn'
      refine ⟨v, w, u, rfl, k.nx _ μ1 c2 ρ1 _ H1 (eb.less fun x => ?_) (((ss'.put r1).put r2).put r3)⟩
      have := le x
      have := footS_le ((δ'.set i (some p)).set j (some q)) m s x
      have := footS_le (δ'.set i (some p)) j q x
      have := footS_le δ' i p x
      simp only [footL] at *
      omega
    · exact c2.elim, k.xout ho⟩
theorem s_par {n : Nat} {es ts : List Expr} {l : FL} {gs : FGs} {kt k2 : Nat} {pt pt2 : Pos} (hc : X.calm = true) (hl : LF X W es l) (hg : GsF X W ts gs) (hn : (assignEach ts X.env).length = n := by rfl) (hst : (assignEach ts X.env).findIdx? (·.1) = none := by rfl)
    (hs : swapsWithSole [.Tuple ts kt pt] (.Tuple es k2 pt2) pos.line X.env = pure false := by rfl) (hw : swappedStores [.Tuple ts kt pt] (.Tuple es k2 pt2) X.env = pure none := by rfl)
    (h1 : (assignEach [.Tuple ts kt pt] X.env).map (·.2) = [assign (.Tuple ts kt pt) X.env] := by rfl) : SF X W (.Assign [.Tuple ts kt pt] (.Tuple es k2 pt2) pos) (fPar n l gs) :=
  ps_imp (ps_asg (pe_tup hl) (pg_tup hc hg hn hst) hs hw h1) fun D σ H ⟨ρ, μ, δ, D', ho, c, k⟩ =>
  ⟨ρ, μ, δ, _, _, ho, c, fun ps μ1 c1 ρ1 H1 vs ev r => by
    obtain ⟨⟨n1, n2⟩, c1⟩ := c1
    have lv := PRs.len r
    refine ⟨by omega, fun p np => ⟨p, vs, rfl, .inl (.inl upd_same), by omega, ?_⟩⟩
    -- the tuple itself is nothing to the state
    have new : Evo X.K (footM ρ1 μ1) ρ1 H1 ρ1 μ1 (upd H1 p (.tup vs)) F0 := (Evo.new ev.sm (fun x => by have := ev.one x; omega) np).drop
    have st : Stay H1 (upd H1 p (.tup vs)) := fun b u q _ => stay_new np b u q
    have r2 : PRs X.K ρ1 (upd H1 p (.tup vs)) ps vs := r.stay st (Ext.refl _) fun b u _ q => stay_new np b u q
    have ev2 : Evo X.K (footM ρ μ) ρ H ρ1 μ1 (upd H1 p (.tup vs)) (fun x => footL ps x + F0 x) := ev.waitF new fun x q => let ⟨xs, e⟩ := r.foot q; ⟨_, e⟩
    have ev3 := ev2.less (G := footL ps) fun x => by omega
    have ho2 := ho.after ev3
    have eb := ho.evoB ev3
    obtain ⟨ps', δ', r', ss', le, c2⟩ := mvL_ok ho2.ss r2 c1
    have ho3 : Hold X.K ρ1 μ1 δ' σ (upd H1 p (.tup vs)) := ⟨ho2.sm, ss', fun x => by have := eb.one x; have := le x; omega⟩
    have base : ∀ x, 1 ≤ footL1 ps' ρ1 μ1 δ' x → 1 ≤ (footL ps x + footS δ x) + footM ρ1 μ1 x := fun x q => by
      have q' : 1 ≤ footL ps' x + (footS δ' x + footM ρ1 μ1 x) := q
      have := le x
      omega
    exact ⟨ρ1, μ1, δ', ps', _, _, ho3, r', fun x => by have := eb.one x; have := le x; show footL ps' x + (footS δ' x + footM ρ1 μ1 x) ≤ 1; omega, c2, fun δ2 μ2 c3 ρ2 σ2 H2 e3 s3 => k.nx δ2 μ2 c3 ρ2 σ2 H2 (eb.trans e3 base) s3,
      fun x δ2 μ2 q ρ2 σ2 H2 cls d e3 s3 r3 => k.ex x δ2 μ2 q ρ2 σ2 H2 cls d (eb.trans e3 base) s3 r3⟩, k.xout ho⟩
theorem s_app {o : Expr} {fo : FE} {apos cpos : Pos} (h1 : EF X W o fo) (he : EF X W e f) (hs : swapsWith (.Call (.Attribute o "append" apos) [e] [] cpos) none pos.line X.env = pure false := by rfl) (hst : starEach [e] X.env = (false, eval e X.env) :: starEach [] X.env := by rfl)
    (hbase : attributeBase o "append" X.env (eval o X.env) = eval o X.env := by rfl)
    (hfew : ((backTo cpos (starEach [e] X.env)).all (fun x => !x.1) && (backToKw cpos (keywordEach [] X.env)).all (fun x => x.1.isSome)
      && decide (([e] : List Expr).length + ([] : List Keyword).length + (if ([] : List Keyword).isEmpty then 0 else 1) < 30)) = true := by rfl)
    (hline : (apos.endLine == cpos.line) = true := by rfl) :
    SF X W (.Expr (.Call (.Attribute o "append" apos) [e] [] cpos) pos) (fApp fo f) := by
  refine ps_imp (ps_expr (pe_bm PySem.F.plainAttrs_list PySem.F.slot_list_append PySem.F.type_list_append mt_append h1 (pa_cons (e_frz he) pa_nil hst) hbase hfew hline hst rfl) hs) fun D σ H ⟨ρ, μ, δ, D', ho, c, k⟩ =>
    ⟨ρ, μ, δ, _, _, ho, c, fun p μ1 c1 ρ1 H1 v e1 r1 => ?_, k.xout ho⟩
  obtain ⟨is, c1⟩ := c1
  have ho1 := ho.after e1
  obtain ⟨ds0, hl0⟩ := Option.isSome_iff_exists.mp is
  obtain ⟨a0, xs0, rfl, rd0, _⟩ := lgetR_ok ho1 r1 hl0
  refine ⟨?_, ρ1, μ1, δ, fun (q : P) (μ2 : Mu) => ∃ d, q = .val d ∧ (match lget δ μ2 p with | some ds => ds.length < sizeLine ∧ lput p δ μ2 (ds ++ [d]) D'.nx | none => False), _, ho1, ?_, fun q μ2 c2 ρ2 H2 v2 e2 r2 => ?_, (k.afterE ho e1).xout ho1⟩
  · rcases rd0 with rd0 | ⟨o0, rd0⟩
    · exact .inl ⟨rfl, _, .inl (.inl rd0)⟩
    · exact .inl ⟨rfl, _, .inl (.inr ⟨o0, rd0⟩)⟩
  · unfold eFrz
    have m : (fun (q : P) (μ2 : Mu) => asD q fun d => ∃ d', P.val d = .val d' ∧ (match lget δ μ2 p with | some ds => ds.length < sizeLine ∧ lput p δ μ2 (ds ++ [d']) D'.nx | none => False)) = fun q μ2 => asD q fun d => (match lget δ μ2 p with | some ds => ds.length < sizeLine ∧ lput p δ μ2 (ds ++ [d]) D'.nx | none => False) := by
      funext q μ2
      cases q with
      | val d => exact propext ⟨fun ⟨d', e, h⟩ => by cases e; exact h, fun h => ⟨d, rfl, h⟩⟩
      | own a ds => exact propext ⟨fun ⟨d', e, h⟩ => by cases e; exact h, fun h => ⟨_, rfl, h⟩⟩
      | bor a pl => rfl
    rw [m]
    exact c1
  · obtain ⟨d, rfl, c2⟩ := c2
    have ho2 := ho1.after e2
    obtain ⟨r1', _⟩ := e1.wait r1 e2
    split at c2
    · rename_i ds hl
      obtain ⟨a, xs, ds', δ', μ', ea, ha, hl', rs, c3, step⟩ := lput_ok ho2 r1' c2.2
      rw [hl] at hl'
      cases hl'
      cases ea
      obtain ⟨ev, ss⟩ := step (xs ++ [v2]) (reps_app rs (reps_cons r2 reps_nil))
      refine ⟨_, xs, v2, rfl, rfl, ha, by rw [← reps_len rs]; exact c2.1, ?_⟩
      exact k.nx δ' μ' c3 ρ2 σ _ (((ho.evoB (e1.drop.transM e2)).less (G := footS δ) fun x => by omega).transS ev) ss
    · exact c2.elim
end
end NT

/-! NT: for and while by values. -/
namespace NT
open PySem PySem.Spec PyProof.Rows L2

/-- what an iterator gives, turn by turn -/
structure ItD where
  stop : Nat → Sl → Mu → Prop
  item : Nat → Sl → Mu → D → Prop
def rngD (lo : Int) (n : Nat) : ItD := ⟨fun i _ _ => n ≤ i, fun i _ _ d => i < n ∧ d = .int (lo + (i : Int))⟩
def fixD (ds : List D) : ItD := ⟨fun i _ _ => ds.length ≤ i, fun i _ _ d => ds[i]? = some d⟩
/-- a list as it stands at each turn -/
def livD (p : P) : ItD := ⟨fun i δ μ => ∃ ds, lget δ μ p = some ds ∧ ds.length ≤ i, fun i δ μ d => ∃ ds, lget δ μ p = some ds ∧ ds[i]? = some d⟩
def enuD (it : ItD) : ItD := ⟨it.stop, fun i δ μ d => ∃ x, it.item i δ μ x ∧ d = .tup [.int (i : Int), x]⟩
def zipD (a b : ItD) : ItD := ⟨fun i δ μ => a.stop i δ μ ∨ b.stop i δ μ, fun i δ μ d => ∃ x y, a.item i δ μ x ∧ b.item i δ μ y ∧ d = .tup [x, y]⟩
/-- how it stands over the hand layer, from (ρ, H) on -/
def Link (K : PySem.W.Frag) (it : ItD) (ρ : List Addr) (H : Hp) (J : It) : Prop := ∀ ρ' μ δ σ H', Ext ρ ρ' → Stay H H' → Hold K ρ' μ δ σ H' → ∀ i, (it.stop i δ μ → J.stop i H') ∧
  ∀ d, it.item i δ μ d → J.go i H' ∧ ∀ x H2, J.yld i H' x H2 → Rep K ρ' H2 d x ∧ Evo K (footM ρ' μ) ρ' H' ρ' μ H2 F0
abbrev FI := Sl → Mu → (ItD → Mu → Prop) → CX → Prop
def liftI (K : PySem.W.Frag) (W : WX) (f : FI) : TI := fun σ H R => ∃ ρ μ δ C E, Hold K ρ μ δ σ H ∧ f δ μ C E ∧ (∀ it μ', C it μ' → ∀ ρ' H' J, Evo K (footM ρ μ) ρ H ρ' μ' H' F0 → Link K it ρ' H' J → R J H') ∧ XOut K W ρ μ σ H E
def IF (X : Cx) (W : WX) (tg e : Expr) (f : FI) : Prop := PI X tg e (liftI X.K W f)
theorem pi_imp {X : Cx} {tg e : Expr} {t t' : TI} (h : PI X tg e t) (i : ∀ σ H R, t' σ H R → t σ H R) : PI X tg e t' := ⟨fun pins s σ H R I q => h.run pins s σ H R I (i σ H R q)⟩
section
variable {K : PySem.W.Frag} {ρ : List Addr} {H : Hp}
theorem link_rng (lo : Int) (n : Nat) : Link K (rngD lo n) ρ H (Itr lo n) := fun ρ' μ δ σ H' ex st ho i => ⟨fun h => h, fun d ⟨h1, h2⟩ => ⟨h1, fun x H2 ⟨e1, e2⟩ => by
  subst e1 e2 h2
  exact ⟨by simp only [Rep], ho.refl⟩⟩⟩
end
def iSeq2 (K : PySem.W.Frag) (tl : TE) : TI := fun σ H R => tl σ H fun x H1 => ∃ a, x = .ref a ∧ (((∃ xs, SqL K H1 a xs) ∧ R (Itl K a) H1) ∨ ((∃ xs, SqT K H1 a xs) ∧ R (Itt K a) H1))
theorem pi_seq2 {X : Cx} {tg l : Expr} {tl : TE} (hl : PE X l tl) : PI X tg l (iSeq2 X.K tl) := by
  refine ⟨fun pins s σ H R I h => ?_⟩
  refine thn (hl.run pins s σ H _ I h) fun v s1 hh => ?_
  obtain ⟨x, H1, I1, r1, a, rfl, q⟩ := hh
  cases r1
  have fp : ∀ b ∈ [s1.heap.objs.size], FpOk X pins H1 b := fun b hb => by
    obtain rfl : b = s1.heap.objs.size := by simpa using hb
    exact I1.fpOk (Nat.le_refl _) (I1.hok.fresh (Nat.le_refl _))
  rcases q with ⟨⟨xs, hq⟩, q⟩ | ⟨⟨xs, hq⟩, q⟩
  · obtain ⟨its, rv, p, hz⟩ := I1.list hq
    refine wpAny_pyIter_list p.isList ?_
    exact ⟨_, [s1.heap.objs.size], _, _, H1, rfl, I1.kept (t' := s1.toks) fun b o e => Heap.get?_push_of_some _ e, turn_list a _, ⟨_, Heap.get?_push_size _ rfl, rfl, rfl⟩, fp, q⟩
  · obtain ⟨its, rv, p, hz⟩ := I1.tuple hq
    refine wpAny_pyIter_tuple (show s1.heap.IsTuple a its.toArray from p) ?_
    exact ⟨_, [s1.heap.objs.size], _, _, H1, rfl, I1.kept (t' := s1.toks) fun b o e => Heap.get?_push_of_some _ e, turn_tuple a _, ⟨_, Heap.get?_push_size _ rfl, rfl, rfl⟩, fp, q⟩
section
variable {K : PySem.W.Frag} {W : WX} {ρ ρ1 ρ2 : List Addr} {μ μ1 μ2 : Mu} {δ δ1 : Sl} {σ σ1 : L2.St} {H H1 H2 : Hp} {F : Addr → Nat} {E : CX}
/-- what a live or fixed list stands for later -/
theorem PR.later {p : P} {v : V} (e : Ext ρ ρ1) (s : Stay H H1) (np : ∀ a ds, p ≠ .own a ds) (h : PR K ρ H p v) : PR K ρ1 H1 p v := h.stay s e fun a o z => by
  cases p with
  | own b ds => exact absurd rfl (np b ds)
  | val d => simp [footP] at z
  | bor b pl => simp [footP] at z
theorem reps_at {ds : List D} {vs : List V} {i : Nat} {d : D} {x : V} (h : Reps K ρ H ds vs) (e : ds[i]? = some d) (e2 : vs[i]? = some x) : Rep K ρ H d x := by
  obtain ⟨v, h1, h2⟩ := reps_get h e
  rw [e2] at h1
  cases h1
  exact h2
theorem link_liv {p : P} {a : Addr} (np : ∀ b ds, p ≠ .own b ds) (r : PR K ρ H p (.ref a)) : Link K (livD p) ρ H (Itl K a) := fun ρ' μ δ σ H' ex st ho i => by
  have r' := r.later ex st np
  refine ⟨fun ⟨ds, h1, h2⟩ => ?_, fun d ⟨ds, h1, h2⟩ => ?_⟩
  · obtain ⟨b, xs, e1, e2, e3⟩ := lget_ok ho r' h1
    cases e1
    exact ⟨xs, e2, by rw [← reps_len e3]; exact h2⟩
  · obtain ⟨b, xs, e1, e2, e3⟩ := lget_ok ho r' h1
    cases e1
    obtain ⟨v, g1, g2⟩ := reps_get e3 h2
    refine ⟨⟨xs, v, e2, g1⟩, fun x H2 ⟨q1, q2⟩ => ?_⟩
    subst q1
    exact ⟨reps_at e3 h2 (q2 xs e2), ho.refl⟩
theorem link_fixL {d : D} {ds : List D} {a : Addr} (hd : lget [] [] (.val d) = some ds) (r : Rep K ρ H d (.ref a)) : Link K (fixD ds) ρ H (Itl K a) := fun ρ' μ δ σ H' ex st ho i => by
  have hd' : lget δ μ (.val d) = some ds := by
    cases d with
    | ref n => simp [lget] at hd
    | _ => exact hd
  have z := link_liv (K := K) (p := .val d) (fun _ _ => by intro z; cases z) r ρ' μ δ σ H' ex st ho i
  exact ⟨fun h => z.1 ⟨ds, hd', h⟩, fun x h => z.2 x ⟨ds, hd', h⟩⟩
theorem link_fixT {ds : List D} {a : Addr} {xs : List V} (r1 : SqU K H a xs) (r2 : Reps K ρ H ds xs) : Link K (fixD ds) ρ H (Itt K a) := fun ρ' μ δ σ H' ex st ho i => by
  have e1 := (r1.stay st).seq
  have e2 := Reps.stay st ex ds xs r2
  refine ⟨fun h => ⟨xs, e1, by rw [← reps_len e2]; exact h⟩, fun d h => ?_⟩
  obtain ⟨v, g1, g2⟩ := reps_get e2 h
  refine ⟨⟨xs, v, e1, g1⟩, fun x H2 ⟨q1, q2⟩ => ?_⟩
  subst q1
  exact ⟨reps_at e2 h (q2 xs e1), ho.refl⟩
theorem link_enu {p : P} {a : Addr} (np : ∀ b ds, p ≠ .own b ds) (r : PR K ρ H p (.ref a)) : Link K (enuD (livD p)) ρ H (Ite K a) := fun ρ' μ δ σ H' ex st ho i => by
  have r' := r.later ex st np
  refine ⟨fun ⟨ds, h1, h2⟩ => ?_, fun d ⟨y, ⟨ds, h1, h2⟩, hd⟩ => ?_⟩
  · obtain ⟨b, xs, e1, e2, e3⟩ := lget_ok ho r' h1
    cases e1
    exact ⟨xs, e2, by rw [← reps_len e3]; exact h2⟩
  · obtain ⟨b, xs, e1, e2, e3⟩ := lget_ok ho r' h1
    cases e1
    obtain ⟨v, g1, g2⟩ := reps_get e3 h2
    refine ⟨⟨xs, v, e2, g1⟩, fun x H2 ⟨T, w, q1, q2, q3, q4⟩ => ?_⟩
    subst q1 q3 hd
    have rr : Reps K ρ' H' [.int (i : Int), y] [.int (i : Nat), w] := reps_cons (by simp only [Rep]) (reps_cons (reps_at e3 h2 (q4 xs e2)) reps_nil)
    obtain ⟨ev, rp⟩ := ho.newTup q2 rr
    exact ⟨rp, ev.drop⟩
theorem link_zip {p q : P} {a b : Addr} (np : ∀ b ds, p ≠ .own b ds) (nq : ∀ b ds, q ≠ .own b ds) (r : PR K ρ H p (.ref a)) (r2 : PR K ρ H q (.ref b)) :
    Link K ⟨fun i δ μ => ∃ ds es, lget δ μ p = some ds ∧ lget δ μ q = some es ∧ (ds.length ≤ i ∨ es.length ≤ i), (zipD (livD p) (livD q)).item⟩ ρ H (Itz K a b) := fun ρ' μ δ σ H' ex st ho i => by
  have r' := r.later ex st np
  have r2' := r2.later ex st nq
  refine ⟨fun ⟨ds, es, h1, h2, h3⟩ => ?_, fun d ⟨y, z, ⟨ds, h1, h2⟩, ⟨es, k1, k2⟩, hd⟩ => ?_⟩
  · obtain ⟨_, xs, e1, e2, e3⟩ := lget_ok ho r' h1
    cases e1
    obtain ⟨_, ys, g1, g2, g3⟩ := lget_ok ho r2' h2
    cases g1
    exact ⟨xs, ys, e2, g2, by rw [← reps_len e3, ← reps_len g3]; exact h3⟩
  · obtain ⟨_, xs, e1, e2, e3⟩ := lget_ok ho r' h1
    cases e1
    obtain ⟨_, ys, g1, g2, g3⟩ := lget_ok ho r2' k1
    cases g1
    obtain ⟨v, w1, w2⟩ := reps_get e3 h2
    obtain ⟨v2, w3, w4⟩ := reps_get g3 k2
    refine ⟨⟨xs, ys, v, v2, e2, g2, w1, w3⟩, fun x H2 ⟨T, w, w', q1, q2, q3, q4, q5⟩ => ?_⟩
    subst q1 q3 hd
    have rr : Reps K ρ' H' [y, z] [w, w'] := reps_cons (reps_at e3 h2 (q4 xs e2)) (reps_cons (reps_at g3 k2 (q5 ys g2)) reps_nil)
    obtain ⟨ev, rp⟩ := ho.newTup q2 rr
    exact ⟨rp, ev.drop⟩
end
/-! ### iterables -/
def iRng1D (f : FE) : FI := fun δ μ C E => f δ μ (fun p μ1 => match p with | .val (.int j) => (-(2 ^ 62) ≤ j ∧ j < 2 ^ 62) ∧ C (rngD 0 j.toNat) μ1 | _ => False) E
def iRng2D (f g : FE) : FI := fun δ μ C E => f δ μ (fun p μ1 => g δ μ1 (fun q μ2 => match p, q with | .val (.int i), .val (.int j) => (-(2 ^ 62) ≤ i ∧ i < 2 ^ 62 ∧ -(2 ^ 62) ≤ j ∧ j < 2 ^ 62) ∧ C (rngD i (j - i).toNat) μ2 | _, _ => False) E) E
/-- a list that stands alone is locked, then as it is -/
def asB (p : P) (C : P → Prop) : Prop := match p with
  | .own _ ds => C (.val (.lst ds))
  | p => C p
def eFrzB (f : FE) : FE := fun δ μ C E => f δ μ (fun p μ1 => asB p fun q => C q μ1) E
theorem e_frzB {X : Cx} {W : WX} {e : Expr} {f : FE} (h : EF X W e f) : EF X W e (eFrzB f) := pe_imp (pe_frz h) fun σ H Q ⟨ρ, μ, δ, C, E, ho, c, hC, hX⟩ =>
  ⟨ρ, μ, δ, _, E, ho, c, fun p μ1 c1 ρ1 H1 v1 e1 r1 => by
    cases p with
    | val d => exact .inl (hC _ μ1 c1 ρ1 H1 v1 e1 r1)
    | own a ds =>
      obtain ⟨rfl, xs, h1, h2⟩ := r1
      refine .inr ⟨a, xs, rfl, h1, fun o => ?_⟩
      obtain ⟨ev, rp⟩ := frz_evo (o := o) e1 h1 h2
      exact hC (.val (.lst ds)) μ1 c1 ρ1 _ _ ev rp
    | bor a pl => exact .inl (hC _ μ1 c1 ρ1 H1 v1 e1 r1), hX⟩
/-- the items of p -/
def itOf (δ : Sl) (μ : Mu) (p : P) (C : ItD → Prop) : Prop := match p with
  | .val (.tup ds) => C (fixD ds)
  | .val (.lst ds) => C (fixD ds)
  | .val (.kls ds) => C (fixD ds)
  | .own _ _ => False
  | q => (lget δ μ q).isSome = true ∧ C (livD q)
def iSeq (f : FE) : FI := fun δ μ C E => f δ μ (fun p μ1 => asB p fun q => itOf δ μ1 q fun it => C it μ1) E
def isOwn : P → Bool
  | .own _ _ => true
  | _ => false
/-- a list, not a tuple: where one is wanted -/
def livOf (δ : Sl) (μ : Mu) (p : P) : Prop := isOwn p = false ∧ (lget δ μ p).isSome = true
def iEnumD (f : FE) : FI := fun δ μ C E => f δ μ (fun p μ1 => asB p fun q => livOf δ μ1 q ∧ C (enuD (livD q)) μ1) E
section
variable {X : Cx} {W : WX} {tg e a b : Expr} {f fa fb : FE} {pos p : Pos}
theorem foot_val (d : D) (x : Addr) : footP (.val d) x = 0 := rfl
theorem foot_no {q : P} (h : isOwn q = false) (x : Addr) : footP q x = 0 := by
  cases q with
  | own a ds => simp [isOwn] at h
  | _ => rfl
theorem np_of {q : P} (h : isOwn q = false) : ∀ b ds, q ≠ .own b ds := fun b ds e => by rw [e] at h; simp [isOwn] at h
theorem i_seq (h : EF X W e f) : IF X W tg e (iSeq f) := pi_imp (pi_seq2 (e_frzB h)) fun σ H R ⟨ρ, μ, δ, C, E, ho, c, hC, hX⟩ =>
  ⟨ρ, μ, δ, fun q μ1 => itOf δ μ1 q fun it => C it μ1, E, ho, c, fun q μ1 c1 ρ1 H1 v1 e1 r1 => by
    have ho1 := ho.after e1
    have live : ∀ {q : P}, isOwn q = false → PR X.K ρ1 H1 q v1 → (lget δ μ1 q).isSome = true → C (livD q) μ1 → ∃ a, v1 = .ref a ∧ (((∃ xs, SqL X.K H1 a xs) ∧ R (Itl X.K a) H1) ∨ ((∃ xs, SqT X.K H1 a xs) ∧ R (Itt X.K a) H1)) := fun {q} nq r z c => by
      obtain ⟨ds, hl⟩ := Option.isSome_iff_exists.mp z
      obtain ⟨a, xs, rfl, e2, e3⟩ := lget_ok ho1 r hl
      exact ⟨a, rfl, .inl ⟨⟨xs, e2⟩, hC _ μ1 c ρ1 H1 _ e1.drop (link_liv (np_of nq) r)⟩⟩
    have fixed : ∀ {d : D} {ds : List D}, lget [] [] (.val d) = some ds → lget δ μ1 (.val d) = some ds → PR X.K ρ1 H1 (.val d) v1 → C (fixD ds) μ1 → ∃ a, v1 = .ref a ∧ (((∃ xs, SqL X.K H1 a xs) ∧ R (Itl X.K a) H1) ∨ ((∃ xs, SqT X.K H1 a xs) ∧ R (Itt X.K a) H1)) := fun {d ds} z1 z2 r c => by
      obtain ⟨a, xs, rfl, e2, e3⟩ := lget_ok ho1 r z2
      exact ⟨a, rfl, .inl ⟨⟨xs, e2⟩, hC _ μ1 c ρ1 H1 _ e1.drop (link_fixL z1 r)⟩⟩
    cases q with
    | val d =>
      cases d with
      | tup ds =>
        obtain ⟨a, xs, rfl, e2, e3⟩ := pr_tup r1
        exact ⟨a, rfl, .inr ⟨⟨xs, e2.seq⟩, hC _ μ1 c1 ρ1 H1 _ e1.drop (link_fixT e2 e3)⟩⟩
      | lst ds => exact fixed rfl rfl r1 c1
      | kls ds => exact fixed rfl rfl r1 c1
      | _ => exact live rfl r1 c1.1 c1.2
    | own a ds => exact c1.elim
    | bor a pl => exact live rfl r1 c1.1 c1.2, hX⟩
theorem i_range1 (hm : X.mg "range" = none) (ha : EF X W a fa) (hg : Gl X "range" := by rfl) (hs : starEach [a] X.env = (false, eval a X.env) :: starEach [] X.env := by rfl) : IF X W tg (.Call (.Name "range" p) [a] [] pos) (iRng1D fa) :=
  pi_imp (pi_range1 hg hm (pa_cons ha pa_nil hs) hs) fun σ H R ⟨ρ, μ, δ, C, E, ho, c, hC, hX⟩ =>
  ⟨ρ, μ, δ, _, E, ho, c, fun p μ1 c1 ρ1 H1 v1 e1 r1 => by
    split at c1
    · obtain rfl := pr_int r1
      exact ⟨_, rfl, c1.1.1, c1.1.2, hC _ μ1 c1.2 ρ1 H1 _ e1.drop (link_rng _ _)⟩
    · exact c1.elim, hX⟩
theorem i_range2 (hm : X.mg "range" = none) (ha : EF X W a fa) (hb : EF X W b fb) (hg : Gl X "range" := by rfl) (hs : starEach [a, b] X.env = (false, eval a X.env) :: starEach [b] X.env := by rfl) (hs2 : starEach [b] X.env = (false, eval b X.env) :: starEach [] X.env := by rfl) : IF X W tg (.Call (.Name "range" p) [a, b] [] pos) (iRng2D fa fb) :=
  pi_imp (pi_range2 hg hm (pa_cons ha (pa_cons hb pa_nil hs2) hs) (by rw [hs, hs2]; rfl) hs2) fun σ H R ⟨ρ, μ, δ, C, E, ho, c, hC, hX⟩ =>
  ⟨ρ, μ, δ, _, E, ho, c, fun p μ1 c1 ρ1 H1 v1 e1 r1 => by
    refine ⟨ρ1, μ1, δ, _, E, ho.after e1, c1, fun q μ2 c2 ρ2 H2 v2 e2 r2 => ?_, hX.after e1⟩
    obtain ⟨r1', _⟩ := e1.wait r1 e2
    split at c2
    · obtain rfl := pr_int r1'
      obtain rfl := pr_int r2
      exact ⟨_, _, rfl, c2.1, hC _ μ2 c2.2 ρ2 H2 _ (e1.drop.transM e2.drop) (link_rng _ _)⟩
    · exact c2.elim, hX⟩
end
end NT

/-! NT: for, while, list comprehensions by values. -/
namespace NT
open PySem PySem.Spec PyProof.Rows L2

def fFor (fi : FI) (g : FG) (b : FS) : FS := fun D δ μ => fi δ μ (fun it μ1 => ∃ Iv : Nat → Nat → Sl → Mu → Prop, (∃ m, Iv 0 m δ μ1) ∧ ∀ i m δ' μ', Iv i m δ' μ' → (it.stop i δ' μ' ∧ D.nx δ' μ') ∨
  ∃ d, it.item i δ' μ' d ∧ g (.val d) δ' μ' (fun δ2 μ2 => b { D with nx := fun δ3 μ3 => ∃ m', m' < m ∧ Iv (i + 1) m' δ3 μ3, ct := fun δ3 μ3 => ∃ m', m' < m ∧ Iv (i + 1) m' δ3 μ3, bk := D.nx } δ2 μ2) D.ex) (fun x μ1 => D.ex x δ μ1)
def fWhile (t : FT) (b : FS) : FS := fun D δ μ => ∃ Iv : Nat → Sl → Mu → Prop, (∃ m, Iv m δ μ) ∧ ∀ m δ' μ', Iv m δ' μ' →
  t δ' μ' (fun k μ1 => if k = true then b { D with nx := fun δ3 μ3 => ∃ m', m' < m ∧ Iv m' δ3 μ3, ct := fun δ3 μ3 => ∃ m', m' < m ∧ Iv m' δ3 μ3, bk := D.nx } δ' μ1 else D.nx δ' μ1) (fun x μ1 => D.ex x δ' μ1)
section
variable {X : Cx} {W : WX} {pos : Pos}
theorem Hold.stayB {K : PySem.W.Frag} {ρ ρ1 : List Addr} {μ μ1 : Mu} {δ : Sl} {σ : L2.St} {H H1 : Hp} {F : Addr → Nat} (h : Hold K ρ μ δ σ H) (e : Evo K (footB ρ μ δ) ρ H ρ1 μ1 H1 F) : Stay H H1 := e.stay fun x q => h.foot q
theorem footP1_val (d : D) (ρ : List Addr) (μ : Mu) (δ : Sl) : footP1 (.val d) ρ μ δ = footB ρ μ δ := by
  funext x
  show footP (.val d) x + footB ρ μ δ x = _
  rw [foot_val, Nat.zero_add]
theorem s_for {iter tg : Expr} {body : List Stmt} {fi : FI} {g : FG} {b : FS} (hp : PassesOwn (model X.prog X.w) X.A X.env X.xe) (hc : X.calm = true) (hi : IF X W tg iter fi) (hg : GF X W tg g) (hb : BF X W body b)
    (hs : ∀ x, foldedSetIterable iter X.env x = pure x := by intro _; rfl) : SF X W (.For tg iter body [] pos) (fFor fi g b) := ps_imp (ps_for hp hc hi hg hb hs) fun D σ H ⟨ρ, μ, δ, D', ho, c, k⟩ =>
  ⟨ρ, μ, δ, _, _, ho, c, fun it μ1 c1 ρ1 H1 J e1 lk => by
    obtain ⟨Iv, ⟨m0, i0⟩, step⟩ := c1
    refine ⟨fun i m σ' H' => ∃ ρ' μ' δ', Iv i m δ' μ' ∧ Hold X.K ρ' μ' δ' σ' H' ∧ Ext ρ1 ρ' ∧ Stay H1 H' ∧ FDOk X.K W ρ' μ' δ' H' D' D, ⟨m0, ρ1, μ1, δ, i0, ho.after e1, Ext.refl _, Stay.refl _, k.afterE ho e1⟩, ?_⟩
    rintro i m σ' H' ⟨ρ', μ', δ', iv, ho', ex, st, k'⟩
    obtain ⟨l1, l2⟩ := lk ρ' μ' δ' σ' H' ex st ho' i
    rcases step i m δ' μ' iv with ⟨c2, c3⟩ | ⟨d, c2, c3⟩
    · exact .inl ⟨l1 c2, k'.nx δ' μ' c3 ρ' σ' H' ho'.reflS ho'.ss⟩
    · obtain ⟨go, yl⟩ := l2 d c2
      refine .inr ⟨go, fun σ3 H3 => ∃ m', m' < m ∧ ∃ ρ' μ' δ', Iv (i + 1) m' δ' μ' ∧ Hold X.K ρ' μ' δ' σ3 H3 ∧ Ext ρ1 ρ' ∧ Stay H1 H3 ∧ FDOk X.K W ρ' μ' δ' H3 D' D, fun σ3 H3 h => h, fun x H2 y => ?_⟩
      obtain ⟨rx, e2⟩ := yl x H2 y
      have ho2 := ho'.after e2
      have k2 := k'.afterE ho' e2
      have st2 := st.trans (e2.stayM ho'.sm)
      refine ⟨ρ', μ', δ', .val d, _, _, ho2, rx, fun z => by rw [footP1_val]; exact ho2.one z, c3, fun δ3 μ3 c4 ρ3 σ3 H3 e3 s3 => ?_, fun z δ3 μ3 q ρ3 σ3 H3 cls dd e3 s3 r3 => k2.ex z δ3 μ3 q ρ3 σ3 H3 cls dd (by rw [footP1_val] at e3; exact e3) s3 r3⟩
      rw [footP1_val] at e3
      have ho3 : Hold X.K ρ3 μ3 δ3 σ3 H3 := Hold.mk' e3 s3
      have k3 := k2.after e3
      have st3 := st2.trans (ho2.stayB e3)
      have ex3 := ex.trans e3.ext
      have again : SOut X.K ρ3 μ3 δ3 H3 (fun δ4 μ4 => ∃ m', m' < m ∧ Iv (i + 1) m' δ4 μ4) (fun σ4 H4 => ∃ m', m' < m ∧ ∃ ρ' μ' δ', Iv (i + 1) m' δ' μ' ∧ Hold X.K ρ' μ' δ' σ4 H4 ∧ Ext ρ1 ρ' ∧ Stay H1 H4 ∧ FDOk X.K W ρ' μ' δ' H4 D' D) :=
        fun δ4 μ4 ⟨m', lt, iv4⟩ ρ4 σ4 H4 e4 s4 => ⟨m', lt, ρ4, μ4, δ4, iv4, Hold.mk' e4 s4, ex3.trans e4.ext, st3.trans (ho3.stayB e4), k3.after e4⟩
      exact ⟨ρ3, μ3, δ3, _, ho3, c4, ⟨again, k3.nx, again, k3.rt, k3.ex⟩⟩, k.xout ho⟩
theorem s_while {c : Expr} {body : List Stmt} {t : FT} {b : FS} (hp : PassesOwn (model X.prog X.w) X.A X.env X.xe) (hc : TF X W c t) (hb : BF X W body b) : SF X W (.While c body [] pos) (fWhile t b) := ps_imp (ps_while hp hc hb) fun D σ H ⟨ρ, μ, δ, D', ho, ⟨Iv, ⟨m0, i0⟩, step⟩, k⟩ => by
  refine ⟨fun m σ' H' => ∃ ρ' μ' δ', Iv m δ' μ' ∧ Hold X.K ρ' μ' δ' σ' H' ∧ FDOk X.K W ρ' μ' δ' H' D' D, ⟨m0, ρ, μ, δ, i0, ho, k⟩, ?_⟩
  rintro m σ' H' ⟨ρ', μ', δ', iv, ho', k'⟩
  refine ⟨ρ', μ', δ', _, _, ho', step m δ' μ' iv, fun q μ1 c1 ρ1 H1 e1 => ?_, k'.xout ho'⟩
  have ho1 := ho'.after e1
  have k1 := k'.afterE ho' e1
  cases q with
  | false => exact k1.nx _ μ1 c1 ρ1 _ H1 ho1.reflS ho1.ss
  | true =>
    rw [if_pos rfl] at c1
    simp only [↓reduceIte]
    have again : SOut X.K ρ1 μ1 δ' H1 (fun δ4 μ4 => ∃ m', m' < m ∧ Iv m' δ4 μ4) (fun σ4 H4 => ∃ m', m' < m ∧ ∃ ρ' μ' δ', Iv m' δ' μ' ∧ Hold X.K ρ' μ' δ' σ4 H4 ∧ FDOk X.K W ρ' μ' δ' H4 D' D) :=
      fun δ4 μ4 ⟨m', lt, iv4⟩ ρ4 σ4 H4 e4 s4 => ⟨m', lt, ρ4, μ4, δ4, iv4, Hold.mk' e4 s4, k1.after e4⟩
    exact ⟨_, fun σ3 H3 h => h, ρ1, μ1, δ', _, ho1, c1, ⟨again, k1.nx, again, k1.rt, k1.ex⟩⟩
end

/-! ### targets of a comprehension -/
abbrev FP := Sl → D → Option Sl
abbrev FPs := Sl → List D → Option Sl
def pNm (i : Nat) : FP := fun δ d => some (δ.set i (some (.val d)))
def pTp (n : Nat) (ps : FPs) : FP := fun δ d => match d with
  | .tup ds => if ds.length = n then ps δ ds else none
  | _ => none
def psNil : FPs := fun δ ds => match ds with
  | [] => some δ
  | _ => none
def psCons (p : FP) (r : FPs) : FPs := fun δ ds => match ds with
  | d :: ds => (p δ d).bind fun δ' => r δ' ds
  | [] => none
def ptT (K : PySem.W.Frag) (vs : List Nat) (fp : FP) : TG := fun v σ H Q => ∃ ρ δ d δ', SS K ρ H δ σ ∧ Rep K ρ H d v ∧ fp δ d = some δ' ∧ ∀ σ', SS K ρ H δ' σ' → σ'.length = σ.length → (∀ j, j ∉ vs → σ'[j]? = σ[j]?) → Q σ' H
def ptsT (K : PySem.W.Frag) (vs : List Nat) (fp : FPs) : TGs := fun us σ H Q => ∃ ρ δ ds δ', SS K ρ H δ σ ∧ Reps K ρ H ds us ∧ fp δ ds = some δ' ∧ ∀ σ', SS K ρ H δ' σ' → σ'.length = σ.length → (∀ j, j ∉ vs → σ'[j]? = σ[j]?) → Q σ' H
structure PtF (X : Cx) (tg : Expr) (vs : List Nat) (fp : FP) : Prop where
  run : PG X tg (ptT X.K vs fp)
  foot : ∀ δ d δ' x, fp δ d = some δ' → footS δ' x ≤ footS δ x
structure PtsF (X : Cx) (tgs : List Expr) (vs : List Nat) (fp : FPs) : Prop where
  run : PGs X tgs (ptsT X.K vs fp)
  foot : ∀ δ ds δ' x, fp δ ds = some δ' → footS δ' x ≤ footS δ x
section
variable {X : Cx} {pos : Pos}
theorem p_nm {i : Nat} {x : Str} (hN : X.N.Nodup) (hi : X.N[i]? = some x := by rfl) (hx : Loc X.env.scope x := by first | exact Or.inl rfl | exact Or.inr rfl) (hf : X.fn x = true ∨ X.env.scope.names.lookup x = some .local := by first | exact .inl rfl | exact .inr rfl | assumption) : PtF X (.Name x pos) [i] (pNm i) :=
  by
  refine ⟨pg_imp (pg_name hN hi hx hf) fun v σ H Q ⟨ρ, δ, d, δ', ss, r, e, q⟩ => ?_, fun δ d δ' x e => ?_⟩
  · cases e
    exact q _ (ss.put (p := .val d) r) (by simp) fun j hj => List.getElem?_set_ne (by simp at hj; omega)
  · cases e
    have := footS_le δ i (.val d) x
    rw [foot_val] at this
    omega
theorem ps_nil' : PtsF X [] [] psNil := by
  refine ⟨pgs_imp pgs_nil fun us σ H Q ⟨ρ, δ, ds, δ', ss, r, e, q⟩ => ?_, fun δ ds δ' x e => ?_⟩
  · cases ds with
    | nil =>
      cases e
      simp only [Reps] at r
      exact ⟨r, q σ ss rfl fun _ _ => rfl⟩
    | cons d ds => cases e
  · cases ds with
    | nil => cases e; exact Nat.le_refl _
    | cons d ds => cases e
theorem ps_cons' {e : Expr} {es : List Expr} {v1 v2 : List Nat} {p : FP} {r : FPs} (h1 : PtF X e v1 p) (h2 : PtsF X es v2 r) (hs : (assignEach (e :: es) X.env).map (·.2) = assign e X.env :: (assignEach es X.env).map (·.2) := by rfl) : PtsF X (e :: es) (v1 ++ v2) (psCons p r) :=
  by
  refine ⟨pgs_imp (pgs_cons h1.run h2.run hs) fun us σ H Q ⟨ρ, δ, ds, δ', ss, rr, e, q⟩ => ?_, fun δ ds δ' x e => ?_⟩
  · cases ds with
    | nil => cases e
    | cons d ds =>
      simp only [Reps] at rr
      obtain ⟨v, t, rfl, r1, r2⟩ := rr
      simp only [psCons] at e
      cases h : p δ d with
      | none => rw [h] at e; cases e
      | some δ1 =>
        rw [h] at e
        refine ⟨v, t, rfl, ρ, δ, d, δ1, ss, r1, h, fun σ1 s1 l1 k1 => ⟨ρ, δ1, ds, δ', s1, r2, e, fun σ2 s2 l2 k2 => q σ2 s2 (by omega) fun j hj => ?_⟩⟩
        rw [List.mem_append, not_or] at hj
        rw [k2 j hj.2, k1 j hj.1]
  · cases ds with
    | nil => cases e
    | cons d ds =>
      simp only [psCons] at e
      cases h : p δ d with
      | none => rw [h] at e; cases e
      | some δ1 =>
        rw [h] at e
        have := h1.foot δ d δ1 x h
        have := h2.foot δ1 ds δ' x e
        omega
theorem p_tp {es : List Expr} {k n : Nat} {vs : List Nat} {r : FPs} (hc : X.calm = true) (h : PtsF X es vs r) (hn : (assignEach es X.env).length = n := by rfl) (hst : (assignEach es X.env).findIdx? (·.1) = none := by rfl) : PtF X (.Tuple es k pos) vs (pTp n r) :=
  by
  refine ⟨pg_imp (pg_tup hc h.run hn hst) fun v σ H Q ⟨ρ, δ, d, δ', ss, rr, e, q⟩ => ?_, fun δ d δ' x e => ?_⟩
  · cases d with
    | tup ds =>
      simp only [pTp] at e
      split at e
      · rename_i hl
        obtain ⟨a, xs, rfl, e2, e3⟩ := pr_tup (K := X.K) rr
        exact ⟨a, xs, rfl, e2.seq, by rw [← reps_len e3]; exact hl, ρ, δ, ds, δ', ss, e3, e, q⟩
      · cases e
    | _ => cases e
  · cases d with
    | tup ds =>
      simp only [pTp] at e
      split at e
      · exact h.foot δ ds δ' x e
      · cases e
    | _ => cases e
end

/-! ### list comprehensions -/
def wipeD (δ : Sl) : List Nat → Sl
  | [] => δ
  | v :: vs => (wipeD δ vs).set v none
/-- nothing is raised -/
abbrev W0 : WX := fun _ _ _ _ => False
abbrev X0 : CX := fun _ _ => False
def tYesD : FT := fun _ μ C _ => C true μ
def eLc (fi : FI) (fp : FP) (t : FT) (f : FE) (vs : List Nat) : FE := fun δ μ C E => fi δ μ (fun it μ1 => ∃ Iv : Nat → Nat → List D → Mu → Prop, (∃ m, Iv 0 m [] μ1) ∧ ∀ i m acc μ', Iv i m acc μ' → (it.stop i (wipeD δ vs) μ' ∧ ∀ a, C (.own a acc) μ') ∨
  ∃ d δ2, it.item i (wipeD δ vs) μ' d ∧ fp (wipeD δ vs) d = some δ2 ∧ acc.length < sizeLine ∧ t δ2 μ' (fun b μ2 => if b = true then f δ2 μ2 (fun p μ3 => asD p fun y => ∃ m', m' < m ∧ Iv (i + 1) m' (acc ++ [y]) μ3) X0 else ∃ m', m' < m ∧ Iv (i + 1) m' acc μ2) X0) E
/-- tests of a comprehension -/
def TSF (X : Cx) (W : WX) (es : List Expr) (f : FT) : Prop := PTs X es (liftT X.K W f)
theorem pts_imp {X : Cx} {e : List Expr} {t t' : TT} (h : PTs X e t) (i : ∀ σ H Q, t' σ H Q → t σ H Q) : PTs X e t' := ⟨fun pins s σ H Q I q => h.run pins s σ H Q I (i σ H Q q)⟩
theorem ts_nil {X : Cx} {W : WX} : TSF X W [] tYesD := pts_imp pts_nil fun σ H Q ⟨ρ, μ, δ, C, E, ho, c, hC, hX⟩ => hC _ μ c ρ H ho.refl
theorem ts_one {X : Cx} {W : WX} {e : Expr} {t : FT} (h : TF X W e t) : TSF X W [e] t := pts_one h
section
variable {K : PySem.W.Frag} {W : WX} {ρ ρ1 ρ2 : List Addr} {μ μ1 μ2 : Mu} {δ δ1 : Sl} {σ σ1 : L2.St} {H H1 H2 : Hp} {F : Addr → Nat} {E : CX}
theorem SS.clear (i : Nat) (h : SS K ρ H δ σ) : SS K ρ H (δ.set i none) (σ.set i none) := by
  refine ⟨by simp [h.len], fun j q e => ?_⟩
  by_cases hj : i = j
  · subst hj
    by_cases hi : i < δ.length
    · rw [List.getElem?_set_self hi] at e
      cases e
    · rw [List.set_eq_of_length_le (by omega)] at e
      rw [List.getElem?_eq_none (by omega)] at e
      cases e
  · rw [List.getElem?_set_ne hj] at e
    obtain ⟨u, h1, h2⟩ := h.at_ j q e
    exact ⟨u, by rw [List.getElem?_set_ne hj]; exact h1, h2⟩
theorem SS.wipe (h : SS K ρ H δ σ) : ∀ vs : List Nat, SS K ρ H (wipeD δ vs) (wipe σ vs)
  | [] => h
  | v :: vs => (SS.wipe h vs).clear v
theorem foot_none (δ : Sl) (i : Nat) (x : Addr) : footS (δ.set i none) x ≤ footS δ x := by
  cases q : δ[i]? with
  | none =>
    have hl : δ.length ≤ i := List.getElem?_eq_none_iff.mp q
    rw [List.set_eq_of_length_le hl]
    exact Nat.le_refl _
  | some so =>
    have := footS_set (none : Option P) x q
    cases so <;> simp at this <;> omega
theorem foot_wipe (δ : Sl) (x : Addr) : ∀ vs : List Nat, footS (wipeD δ vs) x ≤ footS δ x
  | [] => Nat.le_refl _
  | v :: vs => Nat.le_trans (foot_none _ v x) (foot_wipe δ x vs)
theorem wipe_agree : ∀ (vs : List Nat) {σ σ' : L2.St}, σ'.length = σ.length → (∀ j, j ∉ vs → σ'[j]? = σ[j]?) → wipe σ' vs = wipe σ vs := by
  intro vs σ σ' hl h
  refine List.ext_getElem? fun j => ?_
  have key : ∀ (τ : L2.St) (us : List Nat), (wipe τ us)[j]? = if j ∈ us then (if j < τ.length then some none else none) else τ[j]? := fun τ us => by
    induction us with
    | nil => simp [wipe]
    | cons u us ih =>
      simp only [wipe]
      by_cases e : u = j
      · subst e
        rw [List.getElem?_set]
        simp [wipe_length]
      · rw [List.getElem?_set_ne e, ih]
        by_cases e2 : j ∈ us
        · simp [e2]
        · have : ¬ j ∈ u :: us := by simp [e2]; exact fun z => e z.symm
          simp [e2, this]
  rw [key, key, hl]
  by_cases e : j ∈ vs
  · simp [e]
  · simp [e, h j e]
theorem wipe_wipe (σ : L2.St) (vs : List Nat) : wipe (wipe σ vs) vs = wipe σ vs := by
  refine List.ext_getElem? fun j => ?_
  have key : ∀ (τ : L2.St) (us : List Nat), (wipe τ us)[j]? = if j ∈ us then (if j < τ.length then some none else none) else τ[j]? := fun τ us => by
    induction us with
    | nil => simp [wipe]
    | cons u us ih =>
      simp only [wipe]
      by_cases e : u = j
      · subst e
        rw [List.getElem?_set]
        simp [wipe_length]
      · rw [List.getElem?_set_ne e, ih]
        by_cases e2 : j ∈ us
        · simp [e2]
        · have : ¬ j ∈ u :: us := by simp [e2]; exact fun z => e z.symm
          simp [e2, this]
  rw [key, key, wipe_length]
  by_cases e : j ∈ vs <;> simp [e]
/-- the list that stands alone grows -/
theorem own_put {B : Addr → Nat} {a : Addr} {ds nw : List D} {xs ys : List V} (e : Evo K B ρ H ρ1 μ1 H1 (footP (.own a ds))) (h : H1 a = some (.lst xs)) (r : Reps K ρ1 H1 nw ys) :
    Evo K B ρ H ρ1 μ1 (upd H1 a (.lst ys)) (footP (.own a nw)) ∧ PR K ρ1 (upd H1 a (.lst ys)) (.own a nw) (.ref a) := by
  have fa : footP (.own a ds) a = 1 := by simp [footP]
  have st : Stay H1 (upd H1 a (.lst ys)) := fun b u q f => by
    rw [upd_ne]
    · exact q
    · intro z
      rw [z, h] at q
      cases q
      exact f
  have z : ∀ b, 1 ≤ footM ρ1 μ1 b → b ≠ a := fun b q w => by
    have := e.one b
    rw [w, fa] at this
    rw [w] at q
    omega
  refine ⟨⟨e.sm.stay st fun b u q w => by rw [upd_ne (z b q)]; exact w, e.ext, fun b u q w => ?_, e.grow, e.one⟩, rfl, ys, upd_same, r.stay st (Ext.refl _)⟩
  have k := e.keep b u q w
  rw [upd_ne]
  · exact k
  · intro t
    rcases e.grow b (by rw [t, fa]; omega) with g | g
    · omega
    · rw [q] at g
      cases g
end
end NT

/-! NT: list comprehensions by values. -/
namespace NT
open PySem PySem.Spec PyProof.Rows L2

section
variable {K : PySem.W.Frag} {W : WX}
theorem xout0 {ρ : List Addr} {μ : Mu} {σ : L2.St} {H : Hp} : XOut K W0 ρ μ σ H X0 := fun _ _ c => c.elim
theorem lc_lift {fi : FI} {fp : FP} {t : FT} {f : FE} {vs ws : List Nat} {σ : L2.St} {H : Hp} {Q : VK} (hv : ∀ j ∈ ws, j ∈ vs) (hfoot : ∀ δ d δ' x, fp δ d = some δ' → footS δ' x ≤ footS δ x) (h : liftE K W (eLc fi fp t f vs) σ H Q) :
    tLc (liftI K W fi) (ptT K ws fp) (liftT K W0 t) (liftE K W0 (eFrz f)) vs σ H Q := by
  obtain ⟨ρ, μ, δ, C, E, ho, c, hC, hX⟩ := h
  refine ⟨ρ, μ, δ, _, E, ho, c, fun it μ1 c1 ρ1 H1 J e1 lk D nD => ?_, hX⟩
  obtain ⟨Iv, ⟨m0, i0⟩, step⟩ := c1
  obtain ⟨ev0, pr0⟩ := (ho.after e1).newList nD (reps_nil (K := K) (ρ := ρ1) (H := H1))
  refine ⟨fun i m H' => ∃ ρ' μ' acc, Iv i m acc μ' ∧ Evo K (footM ρ μ) ρ H ρ' μ' H' (footP (.own D acc)) ∧ PR K ρ' H' (.own D acc) (.ref D) ∧ Ext ρ1 ρ' ∧ Stay H1 H', ⟨m0, ρ1, μ1, [], i0, e1.transM ev0, pr0, Ext.refl _, ev0.stayM (ho.after e1).sm⟩, ?_⟩
  rintro i m H' ⟨ρ', μ', acc, iv, ev, pr, ex, st⟩
  have hd := ho.after ev
  have hw : Hold K ρ' μ' (wipeD δ vs) (wipe σ vs) H' := ⟨hd.sm, hd.ss.wipe vs, fun x => by have := hd.one x; have := foot_wipe δ x vs; omega⟩
  obtain ⟨l1, l2⟩ := lk ρ' μ' _ _ H' ex st hw i
  rcases step i m acc μ' iv with ⟨c2, c3⟩ | ⟨d, δ2, c2, c3, c4, c5⟩
  · exact .inl ⟨l1 c2, hC _ μ' (c3 D) ρ' H' _ ev pr⟩
  · obtain ⟨go, yl⟩ := l2 d c2
    refine .inr ⟨go, fun H3 => ∃ m', m' < m ∧ ∃ ρ' μ' acc, Iv (i + 1) m' acc μ' ∧ Evo K (footM ρ μ) ρ H ρ' μ' H3 (footP (.own D acc)) ∧ PR K ρ' H3 (.own D acc) (.ref D) ∧ Ext ρ1 ρ' ∧ Stay H1 H3, fun H3 h => h, fun x H2 y => ?_⟩
    obtain ⟨rx, e2⟩ := yl x H2 y
    have hw2 := hw.after e2
    refine ⟨ρ', _, d, δ2, hw2.ss, rx, c3, fun σ2 s2 hl hag => ⟨?_, ?_⟩⟩
    · have := wipe_agree vs hl fun j hj => hag j fun z => hj (hv j z)
      rw [this, wipe_wipe]
    · have hold2 : Hold K ρ' μ' δ2 σ2 H2 := ⟨hw2.sm, s2, fun z => by have := hw2.one z; have := hfoot _ _ _ z c3; omega⟩
      refine ⟨ρ', μ', δ2, _, _, hold2, c5, fun b μ3 c6 ρ3 H3 e3 => ?_, xout0⟩
      have e23 := e2.transM e3
      cases b with
      | false =>
        simp only [Bool.false_eq_true, ↓reduceIte] at c6 ⊢
        obtain ⟨m', lt, iv'⟩ := c6
        have et := ev.waitF e23 fun z q => let ⟨xs, e⟩ := pr.foot q; ⟨_, e⟩
        have et' : Evo K (footM ρ μ) ρ H ρ3 μ3 H3 (footP (.own D acc)) := et.less fun z => by omega
        obtain ⟨pr', _⟩ := ev.wait pr e23
        exact ⟨m', lt, ρ3, μ3, acc, iv', et', pr', ex.trans e23.ext, st.trans (e23.stayM hd.sm)⟩
      | true =>
        simp only [↓reduceIte] at c6 ⊢
        have hold3 := hold2.after e3
        refine ⟨ρ3, μ3, δ2, fun p μ4 => ∃ y, p = .val y ∧ ∃ m', m' < m ∧ Iv (i + 1) m' (acc ++ [y]) μ4, X0, hold3, ?_, fun p μ4 c7 ρ4 H4 v4 e4 r4 => ?_, xout0⟩
        · unfold eFrz
          have z : (fun (p : P) (μ4 : Mu) => asD p fun d => ∃ y, P.val d = .val y ∧ ∃ m', m' < m ∧ Iv (i + 1) m' (acc ++ [y]) μ4) = fun p μ4 => asD p fun y => ∃ m', m' < m ∧ Iv (i + 1) m' (acc ++ [y]) μ4 := by
            funext p μ4
            cases p with
            | val d => exact propext ⟨fun ⟨d', e, h⟩ => by cases e; exact h, fun h => ⟨d, rfl, h⟩⟩
            | own a ds => exact propext ⟨fun ⟨d', e, h⟩ => by cases e; exact h, fun h => ⟨_, rfl, h⟩⟩
            | bor a pl => rfl
          rw [z]
          exact c6
        · obtain ⟨y4, rfl, m', lt, iv'⟩ := c7
          have e24 := e23.transM e4.drop
          have et := ev.waitF e24 fun z q => let ⟨xs, e⟩ := pr.foot q; ⟨_, e⟩
          have et' : Evo K (footM ρ μ) ρ H ρ4 μ4 H4 (footP (.own D acc)) := et.less fun z => by omega
          obtain ⟨⟨_, xs, hD, rs⟩, _⟩ := ev.wait pr e24
          have ra : Reps K ρ4 H4 (acc ++ [y4]) (xs ++ [v4]) := reps_app rs (reps_cons r4 reps_nil)
          obtain ⟨e5, p5⟩ := own_put et' hD ra
          refine ⟨xs, hD, by rw [← reps_len rs]; exact c4, m', lt, ρ4, μ4, acc ++ [y4], iv', e5, p5, ex.trans e24.ext, fun b u q f => ?_⟩
          have k := (st.trans (e24.stayM hd.sm)) b u q f
          rw [upd_ne]
          · exact k
          · intro z
            rw [z, hD] at k
            cases k
            exact f
end
section
variable {X : Cx} {W : WX} {elt tg iter : Expr} {ifs : List Expr} {scope : Scope} {own : List (Str × Nat)} {pos spos py : Pos} {fi : FI} {fp : FP} {t : FT} {f : FE} {ws : List Nat} {i : Nat} {y : Str}
theorem takes0 {X : Cx} : Takes X W0 := fun u s' ⟨a, B, sI, pins, σ, H, cls, d, e, I, nb, up, sky, na, os, ag, w⟩ => w.elim
theorem e_lc (hc : X.calm = true) (hN : X.N.Nodup) (hi : IF X W tg iter fi) (ok : BlkOk X.N X.env.scope scope own) (hv : ∀ j ∈ ws, j ∈ own.map (·.2))
    (hg : ∀ (s : Shared) (H : Hp) (C : Addr) (cl : List (Str × Addr)) (fq : List Addr), PtF (X.blk s H scope (compEnvC scope cl C X.env) fq) tg ws fp) (ht : ∀ (s : Shared) (H : Hp) (C : Addr) (cl : List (Str × Addr)) (fq : List Addr), TSF (X.blk s H scope (compEnvC scope cl C X.env) fq) W0 ifs t)
    (he : ∀ (s : Shared) (H : Hp) (C : Addr) (cl : List (Str × Addr)) (fq : List Addr), EF (X.blk s H scope (compEnvC scope cl C X.env) fq) W0 elt f) (hs : ∀ x, foldedSetIterable iter X.env x = pure x := by intro _; rfl) :
    EF X W (.ListComp elt [⟨tg, iter, ifs, 0⟩] scope pos) (eLc fi fp t f (own.map (·.2))) :=
  pe_imp (pe_lc (g := ptT X.K ws fp) (tt := liftT X.K W0 t) (te := liftE X.K W0 (eFrz f)) hc hN hi ok (fun s H C cl fq => (hg s H C cl fq).run) ht (fun s H C cl fq => e_frz (he s H C cl fq)) hs) fun σ H Q h =>
    lc_lift hv (hg {} (fun _ => none) 0 [] []).foot h
/-- a name of the def on the same line -/
theorem s_setLc (hc : X.calm = true) (hN : X.N.Nodup) (hi : IF X W tg iter fi) (ok : BlkOk X.N X.env.scope scope own) (hv : ∀ j ∈ ws, j ∈ own.map (·.2)) (hy : X.N[i]? = some y) (hyl : X.env.scope.names.lookup y = some .local)
    (hsw : swapsWith (.ListComp elt [⟨tg, iter, ifs, 0⟩] scope pos) (some (.Name y py)) spos.line X.env = pure true)
    (hg : ∀ (s : Shared) (H : Hp) (C : Addr) (cl : List (Str × Addr)) (fq : List Addr), PtF (X.blk s H scope (compEnvC scope cl C X.env) fq) tg ws fp) (ht : ∀ (s : Shared) (H : Hp) (C : Addr) (cl : List (Str × Addr)) (fq : List Addr), TSF (X.blk s H scope (compEnvC scope cl C X.env) fq) W0 ifs t)
    (he : ∀ (s : Shared) (H : Hp) (C : Addr) (cl : List (Str × Addr)) (fq : List Addr), EF (X.blk s H scope (compEnvC scope cl C X.env) fq) W0 elt f) (hs : ∀ x, foldedSetIterable iter X.env x = pure x := by intro _; rfl) :
    SF X W (.Assign [.Name y py] (.ListComp elt [⟨tg, iter, ifs, 0⟩] scope pos) spos) (fAsg (eLc fi fp t f (own.map (·.2))) (gNm i)) :=
  ps_imp (ps_setLc (g := ptT X.K ws fp) (tt := liftT X.K W0 t) (te := liftE X.K W0 (eFrz f)) hc hN hy hyl hsw hi ok (fun s H C cl fq => (hg s H C cl fq).run) ht (fun s H C cl fq => e_frz (he s H C cl fq)) hs) fun D σ H ⟨ρ, μ, δ, D', ho, c, k⟩ =>
    lc_lift (W := W) hv (hg {} (fun _ => none) 0 [] []).foot ⟨ρ, μ, δ, _, _, ho, c, fun p μ1 c1 ρ1 H1 v e1 r => by
      have ho1 := ho.after e1
      have eb := ho.evoB e1
      refine k.nx _ μ1 c1 ρ1 _ H1 (eb.less fun x => ?_) (ho1.ss.put r)
      have := footS_le δ i p x
      omega, k.xout ho⟩
end
end NT

/-! NT: raise, try .. except. -/
namespace NT
open PySem PySem.Spec PyProof.Rows L2

def fRaise (c : Addr) : FS := fun D δ μ => D.ex ⟨c, []⟩ δ μ
/-- how a clause 'except c' answers an exception -/
def exm (K : PySem.W.Frag) (c : Value) (x : EV) : Option Bool := PySem.W.exmOne K (.ref x.cls) c
/-- try, except c: the suite raises nothing -/
def fTry (K : PySem.W.Frag) (c : Value) (fb fs : FS) : FS := fun D δ μ => fb { D with ex := fun x δ' μ' => match exm K c x with
  | some true => fs { D with ex := fun _ _ _ => False } δ' μ'
  | some false => D.ex x δ' μ'
  | none => False } δ μ
section
variable {X : Cx} {W : WX} {pos : Pos}
theorem s_raise {C : Addr} {bmB : List Value} {B newId initId : String} {x m : Str} {j : Nat} {p p2 cpos : Pos} (hc : X.calm = true) (tk : Takes X W) (F : ExcBaseFacts B newId initId bmB) (q : PySem.W.excIn X.K C bmB newId = true) (gC : X.mg x = some (.ref C)) (kC : PySem.W.keepIn X.K (.ref C) = true)
    (r : Raises X (.ref C)) (hg : Gl X x := by rfl) (hdb : (x == ("__debug__" : Str)) = false := by decide) : SF X W (.Raise (some (.Call (.Name x p) [.Constant (.str m) j p2] [] cpos)) none pos) (fRaise C) :=
  ps_imp (ps_raise hc tk (pmk_own F q gC kC r hg hdb)) fun D σ H ⟨ρ, μ, δ, D', ho, c, k⟩ => k.ex ⟨C, []⟩ δ μ c ρ σ H (.ref C) none ho.reflS ho.ss ⟨rfl, .inl rfl⟩
theorem FDOk.noex {K : PySem.W.Frag} {W : WX} {ρ : List Addr} {μ : Mu} {δ : Sl} {H : Hp} {D' : FD} {D : Ends} (k : FDOk K W ρ μ δ H D' D) : FDOk K W0 ρ μ δ H { D' with ex := fun _ _ _ => False } D :=
  ⟨k.nx, k.bk, k.ct, k.rt, fun _ _ _ c => c.elim⟩
theorem s_try {x : Str} {c : Value} {body suite : List Stmt} {b₀ : Stmt} {np pos' : Pos} {fb fs : FS} (hs : X.stack = X.env :: X.outer) (hf : X.env.frame = some X.env.locals) (hc : Names X x c) (tk : Takes X W)
    (hb : ∀ (V : WX) (pn : List (Addr × Obj)) (xe : Value → Shared → Prop), Takes (X.tr pn xe) V → PassesOwn (model X.prog X.w) X.A X.env xe → BF (X.tr pn xe) V body fb)
    (hsu : ∀ (a : Addr) (oe : Obj) (pn : List (Addr × Obj)), BF (X.suite a ((a, oe) :: pn)) W0 (b₀ :: suite) fs) :
    SF X W (.Try body [.ExceptHandler (some (.Name x np)) none (b₀ :: suite) pos'] [] [] pos) (fTry X.K c fb fs) :=
  ps_imp (ps_try_only (tb := fun V => liftS X.K V fb) (ts := fun _ _ _ => liftS X.K W0 fs) hs hf hc tk hb fun a oe cls d pn _ _ => hsu a oe pn) fun D σ H ⟨ρ, μ, δ, D', ho, q, k⟩ =>
    ⟨ρ, μ, δ, _, ho, q, ⟨k.nx, k.bk, k.ct, k.rt, fun y δ' μ' q ρ' σ' H' cls d e s r => by
      obtain ⟨rfl, r2⟩ := id r
      dsimp only at q
      split at q
      · rename_i h
        exact ⟨true, h, fun _ a na => ⟨ρ', μ', δ', _, Hold.mk' e s, q, (k.after e).noex⟩, fun z => by cases z⟩
      · rename_i h
        exact ⟨false, h, fun z => (by cases z), fun _ => k.ex y δ' μ' q ρ' σ' H' _ d e s r⟩
      · exact q.elim⟩⟩
end
/-- how a class of the program answers a clause -/
theorem exm_of {K : PySem.W.Frag} {S T : Addr} {r : Bool} (hT : PySem.W.subIn K (.ref T) (.type "BaseException") = some true) (hC : PySem.W.isClsIn K T = true) (ty : PySem.W.typeIn K (.ref T) = some (.type "type")) (sub : PySem.W.subIn K (.ref S) (.ref T) = some r) :
    PySem.W.exmOne K (.ref S) (.ref T) = some r := by
  unfold PySem.W.exmOne
  rw [hT, if_pos (by rfl)]
  have cl : (PySem.W.clsIn K T).isSome = true := hC
  show (if ((PySem.W.clsIn K T).isSome && PySem.W.typeIn K (.ref T) == some (.type "type")) = true then PySem.W.subIn K (.ref S) (.ref T) else none) = some r
  rw [cl, ty, if_pos (by rfl), sub]
/-! ### x += n of ints -/
def intAddM : M2 := fun p q _ μ C => match p, q with
  | .val (.int i), .val (.int j) => C (.val (.int (i + j))) μ
  | _, _ => False
theorem br_intAdd {K : PySem.W.Frag} : Br2 K (rI0 fun i j => .int (i + j)) intAddM := by
  intro ρ μ δ σ H p q x y C Q ho rp rq ap c hC
  unfold intAddM at c
  split at c
  · exact ⟨_, _, pr_int rp, pr_int rq, hC _ _ c ρ H _ (ho.val fun _ => rfl) (by simp only [PR, Rep])⟩
  · exact c.elim
end NT

/-! NT: the end of a law row, from the law's denotation. -/
namespace NT
open PySem PySem.Spec PyProof.Rows L2

/-- THE RULE for a def, with what its calls and loops need of exceptions -/
theorem fnG_by {Pg : Program} {w : World} {K : PySem.W.Frag} {mg : Str → Option Value} {base : Heap} {k : Nat} {x qual : Str} {st : Stmt} {f : Addr} {fd : FuncData} {N ps : List Str} {b : FS} (Fu : Fun K x qual st f fd) (Sc : FnScope N ps (defScope st)) (hb : Binds K fd ps [])
    (hn : ps.length ≤ N.length)
    (body : ∀ (X : Cx) (W : WX) (cd : Value) (A : Around) (outer : List Env) (s : Shared) (H : Hp) (E : XK), X = cxOf (L2.CX Pg w) Pg w K mg base N qual (defScope st) f cd A outer s H E → W = (fun cls d _ H => E cls d H) → Room k X.A → X.A.guards = some [] → Takes X W → PassesOwn (model X.prog X.w) X.A X.env X.xe → BF X W (defBody st) b) :
    FnG Pg w K mg base (k + 1) f (fnDen ps.length N.length b) :=
  fnG_of Fu Sc hb hn fun cd A outer s H E room gu => body _ _ cd A outer s H E rfl rfl room gu (takes_of rfl rfl rfl rfl) (passes_of rfl)
/-- the law's own wish: true, and nothing raised -/
abbrev LawDen (g : FN) (ns : List Int) : Prop := g [.kls (ns.map D.int)] [] (fun p _ => p = .val (.bl true)) X0
theorem reps_ints {K : PySem.W.Frag} {ρ : List Addr} {H : Hp} : ∀ zs : List Int, Reps K ρ H (zs.map D.int) (zs.map V.int)
  | [] => reps_nil
  | z :: zs => reps_cons (by simp only [Rep]) (reps_ints zs)
/-- the heap in which the script alone is told, or nothing -/
def scriptH (K : PySem.W.Frag) (a : Addr) (vs : List Value) (zs : List Int) : Hp := fun b => if b = a ∧ K.lookup a = none then some (.frz { cls := .type "list", data := .seq vs.toArray } (.lst (zs.map V.int))) else none
section
variable {P : Program} {w : World} {K : PySem.W.Frag} {a : Addr} {vs : List Value} {zs : List Int} {h : Heap}
theorem scriptH_at {b : Addr} {u : HO} (e : scriptH K a vs zs b = some u) : b = a ∧ K.lookup a = none ∧ u = .frz { cls := .type "list", data := .seq vs.toArray } (.lst (zs.map V.int)) := by
  unfold scriptH at e
  split at e
  · rename_i q
    exact ⟨q.1, q.2, (Option.some.inj e).symm⟩
  · cases e
theorem scriptH_seq (kx : K.In h) (ho : h.get? a = some { cls := .type "list", data := .seq vs.toArray }) (hi : IntsAre vs zs) (sz : zs.length ≤ sizeLine) : SqF K (scriptH K a vs zs) a (zs.map V.int) := by
  cases q : K.lookup a with
  | none => exact .inl ⟨_, if_pos ⟨rfl, q⟩⟩
  | some o =>
    have t := kx a o q
    rw [ho] at t
    cases t
    have lv := hi.length
    exact .inr ⟨_, vs.toArray, _, q, rfl, rfl, rfl, by rw [List.size_toArray, lv]; exact sz, by simpa using vals_ints hi⟩
theorem scriptH_ok (ho : h.get? a = some { cls := .type "list", data := .seq vs.toArray }) (hi : IntsAre vs zs) (sz : zs.length ≤ sizeLine) : HOk P w (scriptH K a vs zs) h := fun b u e => by
  obtain ⟨rfl, _, rfl⟩ := scriptH_at e
  exact ⟨ho, by rw [List.length_map]; exact sz, vs, _, vals_ints hi, ho⟩
end
theorem nt_call {P : Program} {w : World} {K : PySem.W.Frag} {mg mb : Str → Option Value} {k : Nat} {fa a : Addr} {g : FN} {s₁ : Shared} {vs : List Value} {zs : List Int}
    (kx : K.In s₁.heap) (nsG : s₁.heap.Ns mainGlobals mg) (nsB : s₁.heap.Ns builtinsNs mb) (bb : ∀ y : Str, y ≠ "__name__" → mb y = bootBuiltins y) (lim : s₁.heap.NoLimit) (gens : s₁.gens = #[])
    (ho : s₁.heap.get? a = some { cls := .type "list", data := .seq vs.toArray }) (hi : IntsAre vs zs) (sz : zs.length ≤ sizeLine) (room : Room k callerA)
    (F : ∀ base : Heap, K.In base → base.Ns mainGlobals mg → FnG P w K mg base k fa g) (den : LawDen g zs) :
    codeAny (model P w) callerA (.call (.ref fa) ⟨[.ref a], []⟩) (fun r s' => r = .ok (.ret (.bool true)) ∧ OldK s₁.heap s'.heap ∧ s'.os = s₁.os ∧ AllBare s'.gens) s₁ := by
  have hok : HOk P w (scriptH K a vs zs) s₁.heap := scriptH_ok ho hi sz
  have sq := scriptH_seq kx ho hi sz
  -- whatever is no list of the script is of the base
  have low : ∀ {b : Addr} {o : Obj}, s₁.heap.get? b = some o → scriptH K a vs zs b = none → (hidT s₁.heap (scriptH K a vs zs)).get? b = some o := fun e n => hidT_get e n
  have noDict : ∀ {b : Addr} {o : Obj} {es : Array DictEntry} {ep : Nat}, s₁.heap.get? b = some o → o.data = .dict es ep → scriptH K a vs zs b = none := fun {b o es ep} e d => by
    cases q : scriptH K a vs zs b with
    | none => rfl
    | some u =>
      obtain ⟨rfl, _, _⟩ := scriptH_at q
      rw [ho] at e
      cases e
      cases (show Data.seq vs.toArray _ = Data.dict es ep from d)
  have nsLow : ∀ {b : Addr} {m : Str → Option Value}, s₁.heap.Ns b m → (hidT s₁.heap (scriptH K a vs zs)).Ns b m := fun {b m} ⟨o, es, ep, e, d, r⟩ => ⟨o, es, ep, low e (noDict e d), d, r⟩
  have kLow : K.In (hidT s₁.heap (scriptH K a vs zs)) := fun b o e => low (kx b o e) (by
    cases q : scriptH K a vs zs b with
    | none => rfl
    | some u =>
      obtain ⟨rfl, n, _⟩ := scriptH_at q
      rw [n] at e
      cases e)
  have modOk : Mod K mg (hidT s₁.heap (scriptH K a vs zs)) := ⟨kLow, nsLow nsG, ⟨mb, nsLow nsB, bb⟩, let ⟨mc, q1, q2⟩ := lim; ⟨mc, nsLow q1, q2⟩⟩
  have env : Env0 P w K mg (hidT s₁.heap (scriptH K a vs zs)) callerA [] s₁ (scriptH K a vs zs) :=
    { frames := rfl, mod := modOk, bs := fun b o e => of_hidT e, bsz := Nat.le_of_eq (hidT_size _ _), funs := trivial, frf := fun b hb => (by cases (show b ∈ ([] : List Addr) from hb)), hok := hok, bare := .of_eq gens }
  have sm : SM K [] [] (scriptH K a vs zs) := ⟨rfl, fun n o e => by simp at e⟩
  have sp : spOf K g [.ref a] (scriptH K a vs zs) (fun v _ => v = .bl true) fun _ _ _ => False := by
    refine ⟨[], [], [.kls (zs.map D.int)], _, _, sm, fun x => Nat.zero_le _, reps_cons ?_ reps_nil, den, fun p μ' c ρ' H' v _ r => ?_, fun _ _ c => c.elim⟩
    · simp only [Rep]
      exact ⟨a, _, rfl, sq, reps_ints zs⟩
    · subst c
      exact pr_bl r
  refine codeAny_mono ((F _ kLow (nsLow nsG)).run callerA [] s₁ (scriptH K a vs zs) [.ref a] [.ref a] (fun v _ => v = .bl true) (fun _ _ _ => False) room rfl env (.cons rfl .nil) sp) fun r s' q => ?_
  cases r with
  | error e =>
    obtain ⟨_, _, _, _, _, _, _, _, _, _, _, _, z⟩ := q
    exact z.elim
  | ok fl =>
    cases fl with
    | ret u =>
      obtain ⟨v, H', os, bare, un, hok', rv, hv⟩ := q
      subst hv
      obtain rfl : u = Value.bool true := rv
      refine ⟨rfl, OldK.of_keep fun b o e => ?_, os, bare⟩
      cases t : scriptH K a vs zs b with
      | none => exact un.keep b o e t (fun z => by cases (show b ∈ ([] : List Addr) from z)) (by simp)
      | some u =>
        obtain ⟨_, _, rfl⟩ := scriptH_at t
        have t2 := un.frzs b _ _ t
        obtain ⟨e1, _⟩ := hok b _ t
        obtain ⟨e2, _⟩ := hok' b _ t2
        rw [e] at e1
        cases e1
        exact e2
    | next => exact False.elim q
    | brk => exact False.elim q
    | cont => exact False.elim q
/-- the goal that the head leaves -/
theorem nt_walk {l : PySem.W.OpenLaw} {n k : Nat} {q : Program} {loose : List Str} {XP : (Str → Option Value) → Heap → Prop} {YP : World → Heap → Prop} {d : DefRec} {K : Params → PySem.W.Frag} {g : PySem.W.Frag → FN}
    (hn : l.most = some n) (hn2 : n ≤ sizeLine) (hdf : d.params.defaults = []) (room : Room k callerA) (hY : ∀ (w : World) (h : Heap), YP w h → (K w.params).In h)
    (F : ∀ (w : World) (mg : Str → Option Value) (fa : Addr) (h : Heap), (K w.params).In h → h.Ns mainGlobals mg → mg d.name = some (.ref fa) →
      (∀ base : Heap, (K w.params).In base → base.Ns mainGlobals mg → FnG l.prog w (K w.params) mg base k fa (g (K w.params))) ∧
      ∀ zs : List Int, zs.length ≤ n → (∀ z ∈ zs, Builtin.Int.intBits z ≤ 1048576) → LawDen (g (K w.params)) zs) :
    PySem.W.WalkO q loose XP YP l.row.toRowW d [] (fun f vs => PySem.call f vs) := by
  refine Att.attach_callB hn hdf fun w s₀ s₁ mg mb fa o pm cd doc a vs zs G Y ho hd hcd hmg obj isn len bits gens => ?_
  obtain ⟨f1, f2⟩ := F w mg fa _ (hY w _ Y) G.T.g hmg
  exact nt_call (hY w _ Y) G.T.g G.T.b G.T.builtins G.T.nolimit gens obj isn (Nat.le_trans len hn2) room f1 (f2 zs len bits)
/-- .. with the places of the text's things as a thing of its own -/
theorem nt_walkA {α : Type} (g : PySem.W.Frag → α → FN) (ad : α) {l : PySem.W.OpenLaw} {n k : Nat} {q : Program} {loose : List Str} {XP : (Str → Option Value) → Heap → Prop} {YP : World → Heap → Prop} {d : DefRec} {K : Params → PySem.W.Frag}
    (hn : l.most = some n) (hn2 : n ≤ sizeLine) (hdf : d.params.defaults = []) (room : Room k callerA) (hY : ∀ (w : World) (h : Heap), YP w h → (K w.params).In h)
    (F : ∀ (w : World) (mg : Str → Option Value) (fa : Addr) (h : Heap), (K w.params).In h → h.Ns mainGlobals mg → mg d.name = some (.ref fa) →
      (∀ base : Heap, (K w.params).In base → base.Ns mainGlobals mg → FnG l.prog w (K w.params) mg base k fa (g (K w.params) ad)) ∧
      ∀ zs : List Int, zs.length ≤ n → (∀ z ∈ zs, Builtin.Int.intBits z ≤ 1048576) → LawDen (g (K w.params) ad) zs) :
    PySem.W.WalkO q loose XP YP l.row.toRowW d [] (fun f vs => PySem.call f vs) := nt_walk (g := fun K => g K ad) hn hn2 hdf room hY F
end NT

/-! NT: words for the plain part of a law. -/
namespace NT
open PySem PySem.Spec PyProof.Rows L2

theorem feq (a b : Str) (h : decide (a = b) = false) : (a = b) = False := by simpa using h
theorem fbq (a b : Str) (h : decide (a = b) = false) : (a == b) = false := by simpa using h
theorem teq (a : Str) : (a = a) = True := by simp
/-- short things fit -/
theorem sz {n : Nat} (h : n ≤ 1000) : n ≤ sizeLine := Nat.le_trans h (by decide)
theorem szT {n : Nat} (h : n ≤ 1000) : (n ≤ sizeLine) = True := eq_true (sz h)
theorem sz0 : (0 ≤ sizeLine) = True := szT (by decide)
theorem sz1 : (1 ≤ sizeLine) = True := szT (by decide)
theorem sz2 : (2 ≤ sizeLine) = True := szT (by decide)
theorem sz3 : (3 ≤ sizeLine) = True := szT (by decide)
theorem sz4 : (4 ≤ sizeLine) = True := szT (by decide)
theorem sz5 : (5 ≤ sizeLine) = True := szT (by decide)
theorem sz6 : (6 ≤ sizeLine) = True := szT (by decide)
theorem sz7 : (7 ≤ sizeLine) = True := szT (by decide)
theorem sz8 : (8 ≤ sizeLine) = True := szT (by decide)
/-! ### plain data -/
theorem ok_int {n : Nat} {i : Int} : D.ok n (.int i) = true := by cases n <;> rfl
theorem ok_bl {n : Nat} {i : Bool} : D.ok n (.bl i) = true := by cases n <;> rfl
theorem ok_non {n : Nat} : D.ok n .non = true := by cases n <;> rfl
theorem ok_str {n : Nat} {s : Str} : D.ok n (.str s) = PyData.strOk s := by cases n <;> rfl
theorem ok_tup {n : Nat} {ds : List D} : D.ok (n + 1) (.tup ds) = ds.all (D.ok n) := rfl
theorem ok_lst {n : Nat} {ds : List D} : D.ok (n + 1) (.lst ds) = ds.all (D.ok n) := rfl
theorem eqb_int {i j : Int} : D.eqb (.int i) (.int j) = (i == j) := by simp only [D.eqb]
theorem eqb_bl {i j : Bool} : D.eqb (.bl i) (.bl j) = (i == j) := by simp only [D.eqb]
theorem repr_int {i : Int} (h : i.natAbs.log2 < 1920) : ReprOk (.int i) ∨ i.natAbs.log2 < 1920 := .inr h
/-! ### subscripts -/
section
variable {α : Type} {a b c d e f : α} {r : List α}
theorem at0 : atI (a :: r) 0 = some a := atI_nat (j := 0) rfl
theorem at1 : atI (a :: b :: r) 1 = some b := atI_nat (j := 1) rfl
theorem at2 : atI (a :: b :: c :: r) 2 = some c := atI_nat (j := 2) rfl
theorem at3 : atI (a :: b :: c :: d :: r) 3 = some d := atI_nat (j := 3) rfl
theorem at4 : atI (a :: b :: c :: d :: e :: r) 4 = some e := atI_nat (j := 4) rfl
theorem at5 : atI (a :: b :: c :: d :: e :: f :: r) 5 = some f := atI_nat (j := 5) rfl
theorem at_of {xs : List α} {i : Int} (h1 : 0 ≤ i) (h2 : i < xs.length) : ∃ v, atI xs i = some v ∧ xs[i.toNat]? = some v := by
  have lt : i.toNat < xs.length := by omega
  refine ⟨xs[i.toNat], ?_, by simp [lt]⟩
  have := atI_nat (xs := xs) (j := i.toNat) (v := xs[i.toNat]) (by simp [lt])
  rwa [Int.toNat_of_nonneg h1] at this
end
theorem ix4_1 : ixN 4 1 = some 1 := by decide
theorem ix4_2 : ixN 4 2 = some 2 := by decide
theorem ix4_3 : ixN 4 3 = some 3 := by decide
/-! ### the operators where both sides are known -/
section
variable {δ : Sl} {μ : Mu} {C : P → Mu → Prop} {i j : Int} {x y : Bool} {s t : Str} {xs ys : List D} {a b : Addr} {pl ql : Pl} {n m : Nat} {neg : Bool}
theorem addM_i : addM (.val (.int i)) (.val (.int j)) δ μ C = C (.val (.int (i + j))) μ := rfl
theorem addM_s : addM (.val (.str s)) (.val (.str t)) δ μ C = (s.length + t.length ≤ sizeLine ∧ C (.val (.str (s ++ t))) μ) := rfl
theorem addM_t : addM (.val (.tup xs)) (.val (.tup ys)) δ μ C = (xs.length + ys.length ≤ sizeLine ∧ C (.val (.tup (xs ++ ys))) μ) := rfl
theorem addM_oo : addM (.own a xs) (.own b ys) δ μ C = (xs.length + ys.length ≤ sizeLine ∧ ∀ c, C (.own c (xs ++ ys)) μ) := rfl
theorem addM_bo : addM (.bor a pl) (.own b ys) δ μ C = (match lget δ μ (.bor a pl) with | some xs => xs.length + ys.length ≤ sizeLine ∧ ∀ c, C (.own c (xs ++ ys)) μ | none => False) := by
  show (match lget δ μ (.bor a pl), some ys with | some xs, some ys => xs.length + ys.length ≤ sizeLine ∧ ∀ c, C (.own c (xs ++ ys)) μ | _, _ => False) = _
  cases lget δ μ (.bor a pl) <;> rfl
theorem addM_ob : addM (.own a xs) (.bor b ql) δ μ C = (match lget δ μ (.bor b ql) with | some ys => xs.length + ys.length ≤ sizeLine ∧ ∀ c, C (.own c (xs ++ ys)) μ | none => False) := by
  show (match some xs, lget δ μ (.bor b ql) with | some xs, some ys => xs.length + ys.length ≤ sizeLine ∧ ∀ c, C (.own c (xs ++ ys)) μ | _, _ => False) = _
  cases lget δ μ (.bor b ql) <;> rfl
theorem addM_lo : addM (.val (.lst xs)) (.own b ys) δ μ C = (xs.length + ys.length ≤ sizeLine ∧ ∀ c, C (.own c (xs ++ ys)) μ) := rfl
theorem addM_ol : addM (.own b xs) (.val (.lst ys)) δ μ C = (xs.length + ys.length ≤ sizeLine ∧ ∀ c, C (.own c (xs ++ ys)) μ) := rfl
theorem addM_ll : addM (.val (.lst xs)) (.val (.lst ys)) δ μ C = (xs.length + ys.length ≤ sizeLine ∧ ∀ c, C (.own c (xs ++ ys)) μ) := rfl
theorem subM_i : subM (.val (.int i)) (.val (.int j)) δ μ C = C (.val (.int (i - j))) μ := rfl
theorem mulM_i : mulM (.val (.int i)) (.val (.int j)) δ μ C = (MulOk i j ∧ C (.val (.int (i * j))) μ) := rfl
theorem mulM_o : mulM (.own a xs) (.val (.int j)) δ μ C = ((-(2 ^ 63) ≤ j ∧ j < 2 ^ 63 ∧ xs.length * j.toNat ≤ sizeLine) ∧ ∀ b, C (.own b (List.replicate j.toNat xs).flatten) μ) := rfl
theorem fdivM_i : fdivM (.val (.int i)) (.val (.int j)) δ μ C = (DivOk j ∧ C (.val (.int (i / j))) μ) := rfl
theorem modM_i : modM (.val (.int i)) (.val (.int j)) δ μ C = (0 < j ∧ C (.val (.int (i % j))) μ) := rfl
theorem intAddM_i : intAddM (.val (.int i)) (.val (.int j)) δ μ C = C (.val (.int (i + j))) μ := rfl
theorem cmpM_i {g : Int → Int → Bool} : cmpM g (.val (.int i)) (.val (.int j)) δ μ C = C (.val (.bl (g i j))) μ := rfl
theorem min2M_i : min2M (.val (.int i)) (.val (.int j)) δ μ C = C (.val (.int (if j < i then j else i))) μ := rfl
theorem max2M_i : max2M (.val (.int i)) (.val (.int j)) δ μ C = C (.val (.int (if j > i then j else i))) μ := rfl
theorem negM_i : negM (.val (.int i)) δ μ C = C (.val (.int (-i))) μ := rfl
theorem absM_i : absM (.val (.int i)) δ μ C = C (.val (.int (if i < 0 then -i else i))) μ := rfl
theorem toIntM_i : toIntM (.val (.int i)) δ μ C = C (.val (.int i)) μ := rfl
theorem isnM_any {p : P} : isnM neg p (.val .non) δ μ C = C (.val (.bl (if neg then !isN p else isN p))) μ := rfl
theorem eqM_i : eqM neg (.val (.int i)) (.val (.int j)) δ μ C = C (.val (.bl (if neg then !(i == j) else i == j))) μ := by
  show ((D.ok 64 (.int i) = true ∧ D.ok 64 (.int j) = true) ∧ C (.val (.bl (if neg then !(D.eqb (.int i) (.int j)) else D.eqb (.int i) (.int j)))) μ) = _
  simp only [ok_int, eqb_int, and_self, true_and]
theorem eqM_b : eqM neg (.val (.bl x)) (.val (.bl y)) δ μ C = C (.val (.bl (if neg then !(x == y) else x == y))) μ := by
  show ((D.ok 64 (.bl x) = true ∧ D.ok 64 (.bl y) = true) ∧ C (.val (.bl (if neg then !(D.eqb (.bl x) (.bl y)) else D.eqb (.bl x) (.bl y)))) μ) = _
  simp only [ok_bl, eqb_bl, and_self, true_and]
theorem eqM_s : eqM neg (.val (.str s)) (.val (.str t)) δ μ C = C (.val (.bl (if neg then !(s == t) else s == t))) μ := rfl
theorem eqM_t : eqM neg (.val (.tup xs)) (.val (.tup ys)) δ μ C = (((D.tup xs).ok 64 = true ∧ (D.tup ys).ok 64 = true) ∧ C (.val (.bl (if neg then !(D.eqb (.tup xs) (.tup ys)) else D.eqb (.tup xs) (.tup ys)))) μ) := rfl
theorem ixM_t : ixM (.val (.tup xs)) (.val (.int i)) δ μ C = (match atI xs i with | some d => C (.val d) μ | none => False) := rfl
theorem ixM_o : ixM (.own a xs) (.val (.int i)) δ μ C = (match atI xs i with | some d => C (.val d) μ | none => False) := rfl
theorem ixM_l : ixM (.val (.lst xs)) (.val (.int i)) δ μ C = (match atI xs i with | some d => C (.val d) μ | none => False) := rfl
theorem ixM_k : ixM (.val (.kls xs)) (.val (.int i)) δ μ C = (match atI xs i with | some d => C (.val d) μ | none => False) := rfl
theorem ixM_r : ixM (.val (.ref n)) (.val (.int i)) δ μ C = (match lget δ μ (.val (.ref n)) with | some ds => (match atI ds i with | some d => C (.val d) μ | none => False) | none => False) := rfl
theorem ixM_b : ixM (.bor a pl) (.val (.int i)) δ μ C = (match lget δ μ (.bor a pl) with | some ds => (match atI ds i with | some d => C (.val d) μ | none => False) | none => False) := rfl
theorem truM_b {R : Bool → Prop} : truM (.val (.bl x)) δ μ R = R x := rfl
theorem truM_i {R : Bool → Prop} : truM (.val (.int i)) δ μ R = R (i != 0) := rfl
theorem truM_n {R : Bool → Prop} : truM (.val .non) δ μ R = R false := rfl
theorem truM_t {R : Bool → Prop} : truM (.val (.tup xs)) δ μ R = R (!xs.isEmpty) := rfl
theorem truM_o {R : Bool → Prop} : truM (.own a xs) δ μ R = R (!xs.isEmpty) := rfl
theorem truM_bo {R : Bool → Prop} (h : lget δ μ (.bor a pl) = some xs) : truM (.bor a pl) δ μ R = R (!xs.isEmpty) := by
  unfold truM
  simp only [h]
end
/-! ### loops -/
section
variable {g : FG} {b : FS} {D' : FD} {δ : Sl} {μ : Mu}
/-- what a loop asks when its iterator has come -/
def LoopIs (it : ItD) (g : FG) (b : FS) (D : FD) (δ : Sl) (μ1 : Mu) : Prop := ∃ Iv : Nat → Nat → Sl → Mu → Prop, (∃ m, Iv 0 m δ μ1) ∧ ∀ i m δ' μ', Iv i m δ' μ' → (it.stop i δ' μ' ∧ D.nx δ' μ') ∨
  ∃ d, it.item i δ' μ' d ∧ g (.val d) δ' μ' (fun δ2 μ2 => b { D with nx := fun δ3 μ3 => ∃ m', m' < m ∧ Iv (i + 1) m' δ3 μ3, ct := fun δ3 μ3 => ∃ m', m' < m ∧ Iv (i + 1) m' δ3 μ3, bk := D.nx } δ2 μ2) D.ex
theorem fFor_eq {fi : FI} : fFor fi g b D' δ μ = fi δ μ (fun it μ1 => LoopIs it g b D' δ μ1) (fun x μ1 => D'.ex x δ μ1) := rfl
/-- n turns -/
theorem loop_n {it : ItD} (n : Nat) (I : Nat → Sl → Mu → Prop) (h0 : I 0 δ μ)
    (hs : ∀ i δ' μ', i < n → I i δ' μ' → ∃ d, it.item i δ' μ' d ∧ g (.val d) δ' μ' (fun δ2 μ2 => b { D' with nx := I (i + 1), ct := I (i + 1), bk := D'.nx } δ2 μ2) D'.ex) (he : ∀ δ' μ', I n δ' μ' → it.stop n δ' μ' ∧ D'.nx δ' μ') : LoopIs it g b D' δ μ := by
  refine ⟨fun i m δ' μ' => m = n - i ∧ i ≤ n ∧ I i δ' μ', ⟨n, by simp, Nat.zero_le _, h0⟩, fun i m δ' μ' ⟨e, hi, iv⟩ => ?_⟩
  subst e
  by_cases lt : i < n
  · obtain ⟨d, h1, h2⟩ := hs i δ' μ' lt iv
    refine .inr ⟨d, h1, ?_⟩
    have z : (fun (δ3 : Sl) (μ3 : Mu) => ∃ m', m' < n - i ∧ (m' = n - (i + 1) ∧ i + 1 ≤ n ∧ I (i + 1) δ3 μ3)) = I (i + 1) := by
      funext δ3 μ3
      exact propext ⟨fun ⟨m', _, _, _, h⟩ => h, fun h => ⟨n - (i + 1), by omega, rfl, lt, h⟩⟩
    rw [z]
    exact h2
  · have e : i = n := by omega
    subst e
    exact .inl (he δ' μ' iv)
theorem loop_rng {lo : Int} {n : Nat} (I : Nat → Sl → Mu → Prop) (h0 : I 0 δ μ)
    (hs : ∀ i δ' μ', i < n → I i δ' μ' → g (.val (.int (lo + (i : Int)))) δ' μ' (fun δ2 μ2 => b { D' with nx := I (i + 1), ct := I (i + 1), bk := D'.nx } δ2 μ2) D'.ex) (he : ∀ δ' μ', I n δ' μ' → D'.nx δ' μ') : LoopIs (rngD lo n) g b D' δ μ :=
  loop_n n I h0 (fun i δ' μ' lt iv => ⟨_, ⟨lt, rfl⟩, hs i δ' μ' lt iv⟩) fun δ' μ' iv => ⟨Nat.le_refl _, he δ' μ' iv⟩
theorem loop_fix {ds : List D} (I : Nat → Sl → Mu → Prop) (h0 : I 0 δ μ)
    (hs : ∀ i δ' μ' d, ds[i]? = some d → I i δ' μ' → g (.val d) δ' μ' (fun δ2 μ2 => b { D' with nx := I (i + 1), ct := I (i + 1), bk := D'.nx } δ2 μ2) D'.ex) (he : ∀ δ' μ', I ds.length δ' μ' → D'.nx δ' μ') : LoopIs (fixD ds) g b D' δ μ :=
  loop_n ds.length I h0 (fun i δ' μ' lt iv => ⟨ds[i], by show ds[i]? = some ds[i]; simp [lt], hs i δ' μ' ds[i] (by simp [lt]) iv⟩) fun δ' μ' iv => ⟨Nat.le_refl _, he δ' μ' iv⟩
/-- a live list whose length stays -/
theorem loop_liv {p : P} (n : Nat) (I : Nat → Sl → Mu → Prop) (h0 : I 0 δ μ) (hl : ∀ i δ' μ', I i δ' μ' → ∃ ds, lget δ' μ' p = some ds ∧ ds.length = n)
    (hs : ∀ i δ' μ' ds d, lget δ' μ' p = some ds → ds[i]? = some d → I i δ' μ' → g (.val d) δ' μ' (fun δ2 μ2 => b { D' with nx := I (i + 1), ct := I (i + 1), bk := D'.nx } δ2 μ2) D'.ex) (he : ∀ δ' μ', I n δ' μ' → D'.nx δ' μ') : LoopIs (livD p) g b D' δ μ :=
  loop_n n I h0 (fun i δ' μ' lt iv => by
    obtain ⟨ds, h1, h2⟩ := hl i δ' μ' iv
    have lt' : i < ds.length := by omega
    exact ⟨ds[i], ⟨ds, h1, by simp [lt']⟩, hs i δ' μ' ds ds[i] h1 (by simp [lt']) iv⟩) fun δ' μ' iv => by
    obtain ⟨ds, h1, h2⟩ := hl n δ' μ' iv
    exact ⟨⟨ds, h1, by omega⟩, he δ' μ' iv⟩
/-- a loop without a count: a measure -/
theorem loop_while {t : FT} (I : Nat → Sl → Mu → Prop) (m0 : Nat) (h0 : I m0 δ μ)
    (hs : ∀ m δ' μ', I m δ' μ' → t δ' μ' (fun k μ1 => if k = true then b { D' with nx := fun δ3 μ3 => ∃ m', m' < m ∧ I m' δ3 μ3, ct := fun δ3 μ3 => ∃ m', m' < m ∧ I m' δ3 μ3, bk := D'.nx } δ' μ1 else D'.nx δ' μ1) (fun x μ1 => D'.ex x δ' μ1)) : fWhile t b D' δ μ := ⟨I, ⟨m0, h0⟩, hs⟩
end
/-! ### comprehensions -/
section
variable {fp : FP} {t : FT} {f : FE} {vs : List Nat} {C : P → Mu → Prop} {δ : Sl} {μ : Mu}
def LcIs (it : ItD) (fp : FP) (t : FT) (f : FE) (vs : List Nat) (C : P → Mu → Prop) (δ : Sl) (μ1 : Mu) : Prop := ∃ Iv : Nat → Nat → List D → Mu → Prop, (∃ m, Iv 0 m [] μ1) ∧ ∀ i m acc μ', Iv i m acc μ' → (it.stop i (wipeD δ vs) μ' ∧ ∀ a, C (.own a acc) μ') ∨
  ∃ d δ2, it.item i (wipeD δ vs) μ' d ∧ fp (wipeD δ vs) d = some δ2 ∧ acc.length < sizeLine ∧ t δ2 μ' (fun b μ2 => if b = true then f δ2 μ2 (fun p μ3 => asD p fun y => ∃ m', m' < m ∧ Iv (i + 1) m' (acc ++ [y]) μ3) X0 else ∃ m', m' < m ∧ Iv (i + 1) m' acc μ2) X0
theorem eLc_eq {fi : FI} {E : CX} : eLc fi fp t f vs δ μ C E = fi δ μ (fun it μ1 => LcIs it fp t f vs C δ μ1) E := rfl
/-- item by item, the store as it is: what each item gives, if anything -/
theorem lc_pure {it : ItD} (n : Nat) (xs : Nat → D) (F : D → Option D) (hn : n ≤ sizeLine) (hi : ∀ i, i < n → it.item i (wipeD δ vs) μ (xs i)) (hstop : it.stop n (wipeD δ vs) μ)
    (hs : ∀ i, i < n → ∃ δ2, fp (wipeD δ vs) (xs i) = some δ2 ∧ ∀ R : Option D → Prop, R (F (xs i)) → t δ2 μ (fun b μ2 => if b = true then f δ2 μ2 (fun p μ3 => asD p fun y => μ3 = μ ∧ R (some y)) X0 else μ2 = μ ∧ R none) X0)
    (hC : ∀ a, C (.own a ((List.range n).filterMap fun i => F (xs i))) μ) : LcIs it fp t f vs C δ μ := by
  refine ⟨fun i m acc μ' => m = n - i ∧ i ≤ n ∧ acc = ((List.range i).filterMap fun i => F (xs i)) ∧ μ' = μ, ⟨n, by simp⟩, fun i m acc μ' ⟨e1, e2, e3, e4⟩ => ?_⟩
  subst e1 e3 e4
  by_cases lt : i < n
  · obtain ⟨δ2, h1, h2⟩ := hs i lt
    have len : ((List.range i).filterMap fun i => F (xs i)).length < sizeLine := by
      have := List.length_filterMap_le (fun i => F (xs i)) (List.range i)
      rw [List.length_range] at this
      omega
    refine .inr ⟨xs i, δ2, hi i lt, h1, len, ?_⟩
    have step := h2 (fun o => o = F (xs i)) rfl
    -- the goal's continuations are these
    have z1 : (fun (b : Bool) (μ2 : Mu) => if b = true then f δ2 μ2 (fun p μ3 => asD p fun y => ∃ m', m' < n - i ∧ (m' = n - (i + 1) ∧ i + 1 ≤ n ∧ ((List.range i).filterMap fun i => F (xs i)) ++ [y] = ((List.range (i + 1)).filterMap fun i => F (xs i)) ∧ μ3 = μ')) X0
        else ∃ m', m' < n - i ∧ (m' = n - (i + 1) ∧ i + 1 ≤ n ∧ ((List.range i).filterMap fun i => F (xs i)) = ((List.range (i + 1)).filterMap fun i => F (xs i)) ∧ μ2 = μ')) =
        fun (b : Bool) (μ2 : Mu) => if b = true then f δ2 μ2 (fun p μ3 => asD p fun y => μ3 = μ' ∧ some y = F (xs i)) X0 else μ2 = μ' ∧ none = F (xs i) := by
      have app : ((List.range (i + 1)).filterMap fun i => F (xs i)) = ((List.range i).filterMap fun i => F (xs i)) ++ (F (xs i)).toList := by
        rw [List.range_succ, List.filterMap_append]
        congr 1
      have q1 : ∀ y : D, ((List.range i).filterMap fun i => F (xs i)) ++ [y] = ((List.range (i + 1)).filterMap fun i => F (xs i)) ↔ some y = F (xs i) := fun y => by
        rw [app, List.append_cancel_left_eq]
        cases F (xs i) <;> simp
      have q2 : ((List.range i).filterMap fun i => F (xs i)) = ((List.range (i + 1)).filterMap fun i => F (xs i)) ↔ none = F (xs i) := by
        rw [app]
        cases F (xs i) <;> simp
      funext b μ2
      congr 1
      · congr 1
        funext p μ3
        congr 1
        funext y
        exact propext ⟨fun ⟨m', _, _, _, h1, h2⟩ => ⟨h2, (q1 y).mp h1⟩, fun ⟨h1, h2⟩ => ⟨n - (i + 1), by omega, rfl, lt, (q1 y).mpr h2, h1⟩⟩
      · exact propext ⟨fun ⟨m', _, _, _, h1, h2⟩ => ⟨h2, q2.mp h1⟩, fun ⟨h1, h2⟩ => ⟨n - (i + 1), by omega, rfl, lt, q2.mpr h2, h1⟩⟩
    rw [z1]
    exact step
  · have e : i = n := by omega
    subst e
    exact .inl ⟨hstop, hC⟩
theorem fm_range {ds : List D} (F : D → Option D) : ((List.range ds.length).filterMap fun i => F (ds.getD i .non)) = ds.filterMap F := by
  have h : ds = (List.range ds.length).map fun i => ds.getD i .non := by
    apply List.ext_getElem
    · simp
    · intro i h1 h2
      simp [List.getD, h1]
  conv => rhs; rw [h]
  rw [List.filterMap_map]
  rfl
/-- over a list that is never written -/
theorem lc_fix {ds : List D} (F : D → Option D) (hn : ds.length ≤ sizeLine)
    (hs : ∀ d ∈ ds, ∃ δ2, fp (wipeD δ vs) d = some δ2 ∧ ∀ R : Option D → Prop, R (F d) → t δ2 μ (fun b μ2 => if b = true then f δ2 μ2 (fun p μ3 => asD p fun y => μ3 = μ ∧ R (some y)) X0 else μ2 = μ ∧ R none) X0)
    (hC : ∀ a, C (.own a (ds.filterMap F)) μ) : LcIs (fixD ds) fp t f vs C δ μ :=
  lc_pure ds.length (fun i => ds.getD i .non) F hn (fun i lt => by show ds[i]? = some (ds.getD i .non); simp [List.getD, lt]) (Nat.le_refl _) (fun i lt => hs _ (by simp [List.getD, lt])) (by rw [fm_range]; exact hC)
theorem lc_rng {lo : Int} {n : Nat} (F : D → Option D) (hn : n ≤ sizeLine)
    (hs : ∀ i, i < n → ∃ δ2, fp (wipeD δ vs) (.int (lo + (i : Int))) = some δ2 ∧ ∀ R : Option D → Prop, R (F (.int (lo + (i : Int)))) → t δ2 μ (fun b μ2 => if b = true then f δ2 μ2 (fun p μ3 => asD p fun y => μ3 = μ ∧ R (some y)) X0 else μ2 = μ ∧ R none) X0)
    (hC : ∀ a, C (.own a ((List.range n).filterMap fun (i : Nat) => F (.int (lo + (i : Int))))) μ) : LcIs (rngD lo n) fp t f vs C δ μ :=
  lc_pure n (fun i => .int (lo + (i : Int))) F hn (fun i lt => ⟨lt, rfl⟩) (Nat.le_refl _) hs hC
/-- over a live list -/
theorem lc_liv {p : P} {ds : List D} (F : D → Option D) (hn : ds.length ≤ sizeLine) (hl : lget (wipeD δ vs) μ p = some ds)
    (hs : ∀ d ∈ ds, ∃ δ2, fp (wipeD δ vs) d = some δ2 ∧ ∀ R : Option D → Prop, R (F d) → t δ2 μ (fun b μ2 => if b = true then f δ2 μ2 (fun p μ3 => asD p fun y => μ3 = μ ∧ R (some y)) X0 else μ2 = μ ∧ R none) X0)
    (hC : ∀ a, C (.own a (ds.filterMap F)) μ) : LcIs (livD p) fp t f vs C δ μ :=
  lc_pure ds.length (fun i => ds.getD i .non) F hn (fun i lt => ⟨ds, hl, by simp [List.getD, lt]⟩) ⟨ds, hl, Nat.le_refl _⟩ (fun i lt => hs _ (by simp [List.getD, lt])) (by rw [fm_range]; exact hC)
end
end NT

/-! NT: the laws' own draws. -/
namespace NT
open PySem PySem.Spec PyProof.Rows L2

/-- a draw: its cells, the place, what is left, the seed -/
def DrawL (ds : List D) : Prop := ∃ (cells : List Int) (i v s : Int), ds = [.lst (cells.map D.int), .int i, .int v, .int s] ∧ -1 ≤ i
def bDraw : FS := fCons (fAsg (eVal (.int 7)) (gNm 1)) (fCons (fFor (iSeq (eVar 0)) (gNm 2) (fAsg (eOp2 modM (eOp1 toIntM (eOp2 addM (eOp2 addM (eOp2 mulM (eVar 1) (eVal (.int 48271))) (eOp2 modM (eOp1 absM (eOp1 toIntM (eVar 2))) (eVal (.int 65521)))) (eVal (.int 1)))) (eVal (.int 2147483647))) (gNm 1))) (fRet (eNew (aCons (eLc (iSeq (eVar 0)) (pNm 2) (tYesD) (eOp1 absM (eOp1 toIntM (eVar 2))) [2]) (aCons (eOp1 negM (eVal (.int 1))) (aCons (eVal (.int 0)) (aCons (eVar 1) (aNil))))))))
def absI (d : D) : Option D := match d with
  | .int i => some (.int (if i < 0 then -i else i))
  | _ => none
theorem abs_map : ∀ zs : List Int, (zs.map D.int).filterMap absI = (zs.map fun z => if z < 0 then -z else z).map D.int
  | [] => rfl
  | z :: r => by simp [absI, abs_map r]
theorem den_draw {zs : List Int} {μ : Mu} {C : P → Mu → Prop} {E : CX} (hz : zs.length ≤ 1000) (hC : ∀ ds, DrawL ds → C (.val (.ref μ.length)) (μ ++ [.lst ds])) : fnDen 1 3 bDraw [.kls (zs.map D.int)] μ C E := by
  refine ⟨rfl, fCons.go ?_⟩
  simp only [fAsg, fPar, fPar2, fPar3, fIfS, fRet, fRetN, fDrop, fNil, fBreak, fCont, fAugN, fAugF, fApp, fRaise, mvL, moved, eVar, eVal, eOp2, eOp1, eTup, eLst, eNew, eIf, eAnd2, eOr2, eNot1, eFrz, asD, asB, eFld, eCall, eMake, eMeth, eSl, oNone, oSome, aNil, aCons, lNil, lCons, gNm, gFd, gIx, gTp, gsNil, gsCons, tTru, tBool, tAnd2, tOr2, tNot1, tYesD, addM_i, addM_s, addM_t, addM_oo, addM_bo, addM_ob, addM_lo, addM_ol, addM_ll, subM_i, mulM_i, mulM_o, fdivM_i, modM_i, intAddM_i, cmpM_i, min2M_i, max2M_i, negM_i, absM_i, toIntM_i, isnM_any, isN, eqM_i, eqM_b, eqM_s, eqM_t, ixM_t, ixM_o, ixM_l, ixM_k, ixM_r, ixM_b, truM_b, truM_i, truM_n, truM_t, truM_o, lenM, sumM, tupM, listM, slM, lget, lgetR, lput, iRng1D, iRng2D, iSeq, itOf, List.map_cons, List.map_nil, List.replicate_zero, List.replicate_succ, List.cons_append, List.nil_append, List.append_nil, List.getElem?_cons_succ, List.getElem?_cons_zero, List.set_cons_zero, List.set_cons_succ, List.length_cons, List.length_nil, Nat.reduceAdd, Nat.reduceSub, Nat.reduceLT, Nat.reduceLeDiff, Nat.sub_self, decide_eq_true_eq, sz0, sz1, sz2, sz3, sz4, sz5, sz6, sz7, sz8, ok_int, ok_bl, ok_non, ok_tup, ok_lst, eqb_int, eqb_bl, at0, at1, at2, at3, at4, at5, beq_iff_eq, ite_true, ite_false, Bool.false_eq_true, if_true, if_false, true_and, and_true, false_and, Bool.not_true, Bool.not_false]
  refine fCons.go ?_
  rw [fFor_eq]
  simp only [fAsg, fPar, fPar2, fPar3, fIfS, fRet, fRetN, fDrop, fNil, fBreak, fCont, fAugN, fAugF, fApp, fRaise, mvL, moved, eVar, eVal, eOp2, eOp1, eTup, eLst, eNew, eIf, eAnd2, eOr2, eNot1, eFrz, asD, asB, eFld, eCall, eMake, eMeth, eSl, oNone, oSome, aNil, aCons, lNil, lCons, gNm, gFd, gIx, gTp, gsNil, gsCons, tTru, tBool, tAnd2, tOr2, tNot1, tYesD, addM_i, addM_s, addM_t, addM_oo, addM_bo, addM_ob, addM_lo, addM_ol, addM_ll, subM_i, mulM_i, mulM_o, fdivM_i, modM_i, intAddM_i, cmpM_i, min2M_i, max2M_i, negM_i, absM_i, toIntM_i, isnM_any, isN, eqM_i, eqM_b, eqM_s, eqM_t, ixM_t, ixM_o, ixM_l, ixM_k, ixM_r, ixM_b, truM_b, truM_i, truM_n, truM_t, truM_o, lenM, sumM, tupM, listM, slM, lget, lgetR, lput, iRng1D, iRng2D, iSeq, itOf, List.map_cons, List.map_nil, List.replicate_zero, List.replicate_succ, List.cons_append, List.nil_append, List.append_nil, List.getElem?_cons_succ, List.getElem?_cons_zero, List.set_cons_zero, List.set_cons_succ, List.length_cons, List.length_nil, Nat.reduceAdd, Nat.reduceSub, Nat.reduceLT, Nat.reduceLeDiff, Nat.sub_self, decide_eq_true_eq, sz0, sz1, sz2, sz3, sz4, sz5, sz6, sz7, sz8, ok_int, ok_bl, ok_non, ok_tup, ok_lst, eqb_int, eqb_bl, at0, at1, at2, at3, at4, at5, beq_iff_eq, ite_true, ite_false, Bool.false_eq_true, if_true, if_false, true_and, and_true, false_and, Bool.not_true, Bool.not_false]
  refine loop_fix (fun i δ' μ' => ∃ s y, δ' = [some (.val (.kls (zs.map D.int))), some (.val (.int s)), y] ∧ μ' = μ) ⟨7, _, rfl, rfl⟩ ?_ ?_
  · rintro i δ' μ' d hd ⟨s, y, rfl, rfl⟩
    rw [List.getElem?_map] at hd
    cases q : zs[i]? with
    | none => rw [q] at hd; cases hd
    | some z =>
      rw [q] at hd
      cases hd
      simp only [fAsg, fPar, fPar2, fPar3, fIfS, fRet, fRetN, fDrop, fNil, fBreak, fCont, fAugN, fAugF, fApp, fRaise, mvL, moved, eVar, eVal, eOp2, eOp1, eTup, eLst, eNew, eIf, eAnd2, eOr2, eNot1, eFrz, asD, asB, eFld, eCall, eMake, eMeth, eSl, oNone, oSome, aNil, aCons, lNil, lCons, gNm, gFd, gIx, gTp, gsNil, gsCons, tTru, tBool, tAnd2, tOr2, tNot1, tYesD, addM_i, addM_s, addM_t, addM_oo, addM_bo, addM_ob, addM_lo, addM_ol, addM_ll, subM_i, mulM_i, mulM_o, fdivM_i, modM_i, intAddM_i, cmpM_i, min2M_i, max2M_i, negM_i, absM_i, toIntM_i, isnM_any, isN, eqM_i, eqM_b, eqM_s, eqM_t, ixM_t, ixM_o, ixM_l, ixM_k, ixM_r, ixM_b, truM_b, truM_i, truM_n, truM_t, truM_o, lenM, sumM, tupM, listM, slM, lget, lgetR, lput, iRng1D, iRng2D, iSeq, itOf, List.map_cons, List.map_nil, List.replicate_zero, List.replicate_succ, List.cons_append, List.nil_append, List.append_nil, List.getElem?_cons_succ, List.getElem?_cons_zero, List.set_cons_zero, List.set_cons_succ, List.length_cons, List.length_nil, Nat.reduceAdd, Nat.reduceSub, Nat.reduceLT, Nat.reduceLeDiff, Nat.sub_self, decide_eq_true_eq, sz0, sz1, sz2, sz3, sz4, sz5, sz6, sz7, sz8, ok_int, ok_bl, ok_non, ok_tup, ok_lst, eqb_int, eqb_bl, at0, at1, at2, at3, at4, at5, beq_iff_eq, ite_true, ite_false, Bool.false_eq_true, if_true, if_false, true_and, and_true, false_and, Bool.not_true, Bool.not_false]
      exact ⟨mulOk_r (by decide) (by decide), by decide, by decide, _, _, rfl⟩
  · rintro δ' μ' ⟨s, y, rfl, rfl⟩
    simp only [fAsg, fPar, fPar2, fPar3, fIfS, fRet, fRetN, fDrop, fNil, fBreak, fCont, fAugN, fAugF, fApp, fRaise, mvL, moved, eVar, eVal, eOp2, eOp1, eTup, eLst, eNew, eIf, eAnd2, eOr2, eNot1, eFrz, asD, asB, eFld, eCall, eMake, eMeth, eSl, oNone, oSome, aNil, aCons, lNil, lCons, gNm, gFd, gIx, gTp, gsNil, gsCons, tTru, tBool, tAnd2, tOr2, tNot1, tYesD, addM_i, addM_s, addM_t, addM_oo, addM_bo, addM_ob, addM_lo, addM_ol, addM_ll, subM_i, mulM_i, mulM_o, fdivM_i, modM_i, intAddM_i, cmpM_i, min2M_i, max2M_i, negM_i, absM_i, toIntM_i, isnM_any, isN, eqM_i, eqM_b, eqM_s, eqM_t, ixM_t, ixM_o, ixM_l, ixM_k, ixM_r, ixM_b, truM_b, truM_i, truM_n, truM_t, truM_o, lenM, sumM, tupM, listM, slM, lget, lgetR, lput, iRng1D, iRng2D, iSeq, itOf, List.map_cons, List.map_nil, List.replicate_zero, List.replicate_succ, List.cons_append, List.nil_append, List.append_nil, List.getElem?_cons_succ, List.getElem?_cons_zero, List.set_cons_zero, List.set_cons_succ, List.length_cons, List.length_nil, Nat.reduceAdd, Nat.reduceSub, Nat.reduceLT, Nat.reduceLeDiff, Nat.sub_self, decide_eq_true_eq, sz0, sz1, sz2, sz3, sz4, sz5, sz6, sz7, sz8, ok_int, ok_bl, ok_non, ok_tup, ok_lst, eqb_int, eqb_bl, at0, at1, at2, at3, at4, at5, beq_iff_eq, ite_true, ite_false, Bool.false_eq_true, if_true, if_false, true_and, and_true, false_and, Bool.not_true, Bool.not_false, eLc_eq]
    refine lc_fix absI (sz (by simpa using hz)) (fun d hd => ?_) ?_
    · obtain ⟨z, _, rfl⟩ := List.mem_map.mp hd
      refine ⟨_, rfl, fun R hR => ?_⟩
      simp only [fAsg, fPar, fPar2, fPar3, fIfS, fRet, fRetN, fDrop, fNil, fBreak, fCont, fAugN, fAugF, fApp, fRaise, mvL, moved, eVar, eVal, eOp2, eOp1, eTup, eLst, eNew, eIf, eAnd2, eOr2, eNot1, eFrz, asD, asB, eFld, eCall, eMake, eMeth, eSl, oNone, oSome, aNil, aCons, lNil, lCons, gNm, gFd, gIx, gTp, gsNil, gsCons, tTru, tBool, tAnd2, tOr2, tNot1, tYesD, addM_i, addM_s, addM_t, addM_oo, addM_bo, addM_ob, addM_lo, addM_ol, addM_ll, subM_i, mulM_i, mulM_o, fdivM_i, modM_i, intAddM_i, cmpM_i, min2M_i, max2M_i, negM_i, absM_i, toIntM_i, isnM_any, isN, eqM_i, eqM_b, eqM_s, eqM_t, ixM_t, ixM_o, ixM_l, ixM_k, ixM_r, ixM_b, truM_b, truM_i, truM_n, truM_t, truM_o, lenM, sumM, tupM, listM, slM, lget, lgetR, lput, iRng1D, iRng2D, iSeq, itOf, List.map_cons, List.map_nil, List.replicate_zero, List.replicate_succ, List.cons_append, List.nil_append, List.append_nil, List.getElem?_cons_succ, List.getElem?_cons_zero, List.set_cons_zero, List.set_cons_succ, List.length_cons, List.length_nil, Nat.reduceAdd, Nat.reduceSub, Nat.reduceLT, Nat.reduceLeDiff, Nat.sub_self, decide_eq_true_eq, sz0, sz1, sz2, sz3, sz4, sz5, sz6, sz7, sz8, ok_int, ok_bl, ok_non, ok_tup, ok_lst, eqb_int, eqb_bl, at0, at1, at2, at3, at4, at5, beq_iff_eq, ite_true, ite_false, Bool.false_eq_true, if_true, if_false, true_and, and_true, false_and, Bool.not_true, Bool.not_false, wipeD]
      exact hR
    · intro a
      simp only [fAsg, fPar, fPar2, fPar3, fIfS, fRet, fRetN, fDrop, fNil, fBreak, fCont, fAugN, fAugF, fApp, fRaise, mvL, moved, eVar, eVal, eOp2, eOp1, eTup, eLst, eNew, eIf, eAnd2, eOr2, eNot1, eFrz, asD, asB, eFld, eCall, eMake, eMeth, eSl, oNone, oSome, aNil, aCons, lNil, lCons, gNm, gFd, gIx, gTp, gsNil, gsCons, tTru, tBool, tAnd2, tOr2, tNot1, tYesD, addM_i, addM_s, addM_t, addM_oo, addM_bo, addM_ob, addM_lo, addM_ol, addM_ll, subM_i, mulM_i, mulM_o, fdivM_i, modM_i, intAddM_i, cmpM_i, min2M_i, max2M_i, negM_i, absM_i, toIntM_i, isnM_any, isN, eqM_i, eqM_b, eqM_s, eqM_t, ixM_t, ixM_o, ixM_l, ixM_k, ixM_r, ixM_b, truM_b, truM_i, truM_n, truM_t, truM_o, lenM, sumM, tupM, listM, slM, lget, lgetR, lput, iRng1D, iRng2D, iSeq, itOf, List.map_cons, List.map_nil, List.replicate_zero, List.replicate_succ, List.cons_append, List.nil_append, List.append_nil, List.getElem?_cons_succ, List.getElem?_cons_zero, List.set_cons_zero, List.set_cons_succ, List.length_cons, List.length_nil, Nat.reduceAdd, Nat.reduceSub, Nat.reduceLT, Nat.reduceLeDiff, Nat.sub_self, decide_eq_true_eq, sz0, sz1, sz2, sz3, sz4, sz5, sz6, sz7, sz8, ok_int, ok_bl, ok_non, ok_tup, ok_lst, eqb_int, eqb_bl, at0, at1, at2, at3, at4, at5, beq_iff_eq, ite_true, ite_false, Bool.false_eq_true, if_true, if_false, true_and, and_true, false_and, Bool.not_true, Bool.not_false, abs_map]
      exact hC _ ⟨_, -1, 0, s, rfl, by decide⟩
def bTake : FS := fCons (fIfS (tBool (eOp2 (eqM false) (eOp2 ixM (eVar 0) (eVal (.int 2))) (eVal (.int 0)))) (fCons (fAsg (eOp2 addM (eOp2 ixM (eVar 0) (eVal (.int 1))) (eVal (.int 1))) (gIx (eVar 0) (eVal (.int 1)))) (fCons (fIfS (tBool (eOp2 (cmpM fun i j => decide (i < j)) (eOp2 ixM (eVar 0) (eVal (.int 1))) (eOp1 lenM (eOp2 ixM (eVar 0) (eVal (.int 0)))))) (fAsg (eOp2 ixM (eOp2 ixM (eVar 0) (eVal (.int 0))) (eOp2 ixM (eVar 0) (eVal (.int 1)))) (gIx (eVar 0) (eVal (.int 2)))) (fNil)) (fIfS (tBool (eOp2 (eqM false) (eOp2 ixM (eVar 0) (eVal (.int 2))) (eVal (.int 0)))) (fCons (fAsg (eOp2 modM (eOp1 toIntM (eOp2 addM (eOp2 mulM (eOp2 ixM (eVar 0) (eVal (.int 3))) (eVal (.int 48271))) (eVal (.int 11)))) (eVal (.int 2147483647))) (gIx (eVar 0) (eVal (.int 3)))) (fAsg (eOp2 ixM (eVar 0) (eVal (.int 3))) (gIx (eVar 0) (eVal (.int 2))))) (fNil)))) (fNil)) (fCons (fAsg (eOp2 modM (eOp1 toIntM (eOp2 ixM (eVar 0) (eVal (.int 2)))) (eVar 1)) (gNm 2)) (fCons (fAsg (eOp2 fdivM (eOp2 ixM (eVar 0) (eVal (.int 2))) (eVar 1)) (gIx (eVar 0) (eVal (.int 2)))) (fRet (eVar 2))))
theorem den_take {n : Nat} {many : Int} {ds : List D} {μ : Mu} {C : P → Mu → Prop} {E : CX} (hm : μ[n]? = some (.lst ds)) (hd : DrawL ds) (h1 : 0 < many) (h2 : many < 2 ^ 64) (hC : ∀ v ds', 0 ≤ v → v < many → DrawL ds' → C (.val (.int v)) (μ.set n (.lst ds'))) :
    fnDen 2 3 bTake [.ref n, .int many] μ C E := by
  obtain ⟨cells, i, v, s, rfl, hi⟩ := hd
  have hl : n < μ.length := (List.getElem?_eq_some_iff.mp hm).1
  -- the last part
  have fin : ∀ {D' : FD} {μ' : Mu} {y : Option P} {cells : List Int} {i v s : Int}, n < μ'.length → -1 ≤ i → (∀ ds', DrawL ds' → D'.rt (.val (.int (v % many))) (μ'.set n (.lst ds'))) → μ'[n]? = some (.lst [.lst (cells.map D.int), .int i, .int v, .int s]) →
      fCons (fAsg (eOp2 modM (eOp1 toIntM (eOp2 ixM (eVar 0) (eVal (.int 2)))) (eVar 1)) (gNm 2)) (fCons (fAsg (eOp2 fdivM (eOp2 ixM (eVar 0) (eVal (.int 2))) (eVar 1)) (gIx (eVar 0) (eVal (.int 2)))) (fRet (eVar 2))) D' [some (.val (.ref n)), some (.val (.int many)), y] μ' := by
    intro D' μ' y cells i v s hl' hi' hR hm'
    refine fCons.go ?_
    simp only [fAsg, fPar, fPar2, fPar3, fIfS, fRet, fRetN, fDrop, fNil, fBreak, fCont, fAugN, fAugF, fApp, fRaise, mvL, moved, eVar, eVal, eOp2, eOp1, eTup, eLst, eNew, eIf, eAnd2, eOr2, eNot1, eFrz, asD, asB, eFld, eCall, eMake, eMeth, eSl, oNone, oSome, aNil, aCons, lNil, lCons, gNm, gFd, gIx, gTp, gsNil, gsCons, tTru, tBool, tAnd2, tOr2, tNot1, tYesD, addM_i, addM_s, addM_t, addM_oo, addM_bo, addM_ob, addM_lo, addM_ol, addM_ll, subM_i, mulM_i, mulM_o, fdivM_i, modM_i, intAddM_i, cmpM_i, min2M_i, max2M_i, negM_i, absM_i, toIntM_i, isnM_any, isN, eqM_i, eqM_b, eqM_s, eqM_t, ixM_t, ixM_o, ixM_l, ixM_k, ixM_r, ixM_b, truM_b, truM_i, truM_n, truM_t, truM_o, lenM, sumM, tupM, listM, slM, lget, lgetR, lput, iRng1D, iRng2D, iSeq, itOf, List.map_cons, List.map_nil, List.replicate_zero, List.replicate_succ, List.cons_append, List.nil_append, List.append_nil, List.getElem?_cons_succ, List.getElem?_cons_zero, List.set_cons_zero, List.set_cons_succ, List.length_cons, List.length_nil, Nat.reduceAdd, Nat.reduceSub, Nat.reduceLT, Nat.reduceLeDiff, Nat.sub_self, decide_eq_true_eq, sz0, sz1, sz2, sz3, sz4, sz5, sz6, sz7, sz8, ok_int, ok_bl, ok_non, ok_tup, ok_lst, eqb_int, eqb_bl, at0, at1, at2, at3, at4, at5, beq_iff_eq, ite_true, ite_false, Bool.false_eq_true, if_true, if_false, true_and, and_true, false_and, Bool.not_true, Bool.not_false, hm']
    refine ⟨h1, fCons.go ?_⟩
    simp only [fAsg, fPar, fPar2, fPar3, fIfS, fRet, fRetN, fDrop, fNil, fBreak, fCont, fAugN, fAugF, fApp, fRaise, mvL, moved, eVar, eVal, eOp2, eOp1, eTup, eLst, eNew, eIf, eAnd2, eOr2, eNot1, eFrz, asD, asB, eFld, eCall, eMake, eMeth, eSl, oNone, oSome, aNil, aCons, lNil, lCons, gNm, gFd, gIx, gTp, gsNil, gsCons, tTru, tBool, tAnd2, tOr2, tNot1, tYesD, addM_i, addM_s, addM_t, addM_oo, addM_bo, addM_ob, addM_lo, addM_ol, addM_ll, subM_i, mulM_i, mulM_o, fdivM_i, modM_i, intAddM_i, cmpM_i, min2M_i, max2M_i, negM_i, absM_i, toIntM_i, isnM_any, isN, eqM_i, eqM_b, eqM_s, eqM_t, ixM_t, ixM_o, ixM_l, ixM_k, ixM_r, ixM_b, truM_b, truM_i, truM_n, truM_t, truM_o, lenM, sumM, tupM, listM, slM, lget, lgetR, lput, iRng1D, iRng2D, iSeq, itOf, List.map_cons, List.map_nil, List.replicate_zero, List.replicate_succ, List.cons_append, List.nil_append, List.append_nil, List.getElem?_cons_succ, List.getElem?_cons_zero, List.set_cons_zero, List.set_cons_succ, List.length_cons, List.length_nil, Nat.reduceAdd, Nat.reduceSub, Nat.reduceLT, Nat.reduceLeDiff, Nat.sub_self, decide_eq_true_eq, sz0, sz1, sz2, sz3, sz4, sz5, sz6, sz7, sz8, ok_int, ok_bl, ok_non, ok_tup, ok_lst, eqb_int, eqb_bl, at0, at1, at2, at3, at4, at5, beq_iff_eq, ite_true, ite_false, Bool.false_eq_true, if_true, if_false, true_and, and_true, false_and, Bool.not_true, Bool.not_false, hm', ix4_2]
    exact ⟨divOk_of h1 h2, hR _ ⟨cells, i, v / many, s, rfl, hi'⟩⟩
  have res : ∀ {v : Int} {ds' : List D}, DrawL ds' → C (.val (.int (v % many))) (μ.set n (.lst ds')) := fun {v ds'} h => hC _ _ (Int.emod_nonneg _ (by omega)) (Int.emod_lt_of_pos _ h1) h
  refine ⟨rfl, fCons.go ?_⟩
  simp only [fAsg, fPar, fPar2, fPar3, fIfS, fRet, fRetN, fDrop, fNil, fBreak, fCont, fAugN, fAugF, fApp, fRaise, mvL, moved, eVar, eVal, eOp2, eOp1, eTup, eLst, eNew, eIf, eAnd2, eOr2, eNot1, eFrz, asD, asB, eFld, eCall, eMake, eMeth, eSl, oNone, oSome, aNil, aCons, lNil, lCons, gNm, gFd, gIx, gTp, gsNil, gsCons, tTru, tBool, tAnd2, tOr2, tNot1, tYesD, addM_i, addM_s, addM_t, addM_oo, addM_bo, addM_ob, addM_lo, addM_ol, addM_ll, subM_i, mulM_i, mulM_o, fdivM_i, modM_i, intAddM_i, cmpM_i, min2M_i, max2M_i, negM_i, absM_i, toIntM_i, isnM_any, isN, eqM_i, eqM_b, eqM_s, eqM_t, ixM_t, ixM_o, ixM_l, ixM_k, ixM_r, ixM_b, truM_b, truM_i, truM_n, truM_t, truM_o, lenM, sumM, tupM, listM, slM, lget, lgetR, lput, iRng1D, iRng2D, iSeq, itOf, List.map_cons, List.map_nil, List.replicate_zero, List.replicate_succ, List.cons_append, List.nil_append, List.append_nil, List.getElem?_cons_succ, List.getElem?_cons_zero, List.set_cons_zero, List.set_cons_succ, List.length_cons, List.length_nil, Nat.reduceAdd, Nat.reduceSub, Nat.reduceLT, Nat.reduceLeDiff, Nat.sub_self, decide_eq_true_eq, sz0, sz1, sz2, sz3, sz4, sz5, sz6, sz7, sz8, ok_int, ok_bl, ok_non, ok_tup, ok_lst, eqb_int, eqb_bl, at0, at1, at2, at3, at4, at5, beq_iff_eq, ite_true, ite_false, Bool.false_eq_true, if_true, if_false, true_and, and_true, false_and, Bool.not_true, Bool.not_false, hm]
  split
  · refine fCons.go ?_
    simp only [fAsg, fPar, fPar2, fPar3, fIfS, fRet, fRetN, fDrop, fNil, fBreak, fCont, fAugN, fAugF, fApp, fRaise, mvL, moved, eVar, eVal, eOp2, eOp1, eTup, eLst, eNew, eIf, eAnd2, eOr2, eNot1, eFrz, asD, asB, eFld, eCall, eMake, eMeth, eSl, oNone, oSome, aNil, aCons, lNil, lCons, gNm, gFd, gIx, gTp, gsNil, gsCons, tTru, tBool, tAnd2, tOr2, tNot1, tYesD, addM_i, addM_s, addM_t, addM_oo, addM_bo, addM_ob, addM_lo, addM_ol, addM_ll, subM_i, mulM_i, mulM_o, fdivM_i, modM_i, intAddM_i, cmpM_i, min2M_i, max2M_i, negM_i, absM_i, toIntM_i, isnM_any, isN, eqM_i, eqM_b, eqM_s, eqM_t, ixM_t, ixM_o, ixM_l, ixM_k, ixM_r, ixM_b, truM_b, truM_i, truM_n, truM_t, truM_o, lenM, sumM, tupM, listM, slM, lget, lgetR, lput, iRng1D, iRng2D, iSeq, itOf, List.map_cons, List.map_nil, List.replicate_zero, List.replicate_succ, List.cons_append, List.nil_append, List.append_nil, List.getElem?_cons_succ, List.getElem?_cons_zero, List.set_cons_zero, List.set_cons_succ, List.length_cons, List.length_nil, Nat.reduceAdd, Nat.reduceSub, Nat.reduceLT, Nat.reduceLeDiff, Nat.sub_self, decide_eq_true_eq, sz0, sz1, sz2, sz3, sz4, sz5, sz6, sz7, sz8, ok_int, ok_bl, ok_non, ok_tup, ok_lst, eqb_int, eqb_bl, at0, at1, at2, at3, at4, at5, beq_iff_eq, ite_true, ite_false, Bool.false_eq_true, if_true, if_false, true_and, and_true, false_and, Bool.not_true, Bool.not_false, hm, ix4_1]
    refine fCons.go ?_
    simp only [fAsg, fPar, fPar2, fPar3, fIfS, fRet, fRetN, fDrop, fNil, fBreak, fCont, fAugN, fAugF, fApp, fRaise, mvL, moved, eVar, eVal, eOp2, eOp1, eTup, eLst, eNew, eIf, eAnd2, eOr2, eNot1, eFrz, asD, asB, eFld, eCall, eMake, eMeth, eSl, oNone, oSome, aNil, aCons, lNil, lCons, gNm, gFd, gIx, gTp, gsNil, gsCons, tTru, tBool, tAnd2, tOr2, tNot1, tYesD, addM_i, addM_s, addM_t, addM_oo, addM_bo, addM_ob, addM_lo, addM_ol, addM_ll, subM_i, mulM_i, mulM_o, fdivM_i, modM_i, intAddM_i, cmpM_i, min2M_i, max2M_i, negM_i, absM_i, toIntM_i, isnM_any, isN, eqM_i, eqM_b, eqM_s, eqM_t, ixM_t, ixM_o, ixM_l, ixM_k, ixM_r, ixM_b, truM_b, truM_i, truM_n, truM_t, truM_o, lenM, sumM, tupM, listM, slM, lget, lgetR, lput, iRng1D, iRng2D, iSeq, itOf, List.map_cons, List.map_nil, List.replicate_zero, List.replicate_succ, List.cons_append, List.nil_append, List.append_nil, List.getElem?_cons_succ, List.getElem?_cons_zero, List.set_cons_zero, List.set_cons_succ, List.length_cons, List.length_nil, Nat.reduceAdd, Nat.reduceSub, Nat.reduceLT, Nat.reduceLeDiff, Nat.sub_self, decide_eq_true_eq, sz0, sz1, sz2, sz3, sz4, sz5, sz6, sz7, sz8, ok_int, ok_bl, ok_non, ok_tup, ok_lst, eqb_int, eqb_bl, at0, at1, at2, at3, at4, at5, beq_iff_eq, ite_true, ite_false, Bool.false_eq_true, if_true, if_false, true_and, and_true, false_and, Bool.not_true, Bool.not_false, List.getElem?_set_self hl, List.length_map]
    split
    · rename_i lt
      obtain ⟨c, e1, e2⟩ := at_of (xs := cells.map D.int) (i := i + 1) (by omega) (by simpa using lt)
      obtain ⟨c', rfl⟩ : ∃ c', c = .int c' := by
        rw [List.getElem?_map] at e2
        cases q : cells[(i + 1).toNat]? with
        | none => rw [q] at e2; cases e2
        | some z => rw [q] at e2; exact ⟨z, (Option.some.inj e2).symm⟩
      simp only [fAsg, fPar, fPar2, fPar3, fIfS, fRet, fRetN, fDrop, fNil, fBreak, fCont, fAugN, fAugF, fApp, fRaise, mvL, moved, eVar, eVal, eOp2, eOp1, eTup, eLst, eNew, eIf, eAnd2, eOr2, eNot1, eFrz, asD, asB, eFld, eCall, eMake, eMeth, eSl, oNone, oSome, aNil, aCons, lNil, lCons, gNm, gFd, gIx, gTp, gsNil, gsCons, tTru, tBool, tAnd2, tOr2, tNot1, tYesD, addM_i, addM_s, addM_t, addM_oo, addM_bo, addM_ob, addM_lo, addM_ol, addM_ll, subM_i, mulM_i, mulM_o, fdivM_i, modM_i, intAddM_i, cmpM_i, min2M_i, max2M_i, negM_i, absM_i, toIntM_i, isnM_any, isN, eqM_i, eqM_b, eqM_s, eqM_t, ixM_t, ixM_o, ixM_l, ixM_k, ixM_r, ixM_b, truM_b, truM_i, truM_n, truM_t, truM_o, lenM, sumM, tupM, listM, slM, lget, lgetR, lput, iRng1D, iRng2D, iSeq, itOf, List.map_cons, List.map_nil, List.replicate_zero, List.replicate_succ, List.cons_append, List.nil_append, List.append_nil, List.getElem?_cons_succ, List.getElem?_cons_zero, List.set_cons_zero, List.set_cons_succ, List.length_cons, List.length_nil, Nat.reduceAdd, Nat.reduceSub, Nat.reduceLT, Nat.reduceLeDiff, Nat.sub_self, decide_eq_true_eq, sz0, sz1, sz2, sz3, sz4, sz5, sz6, sz7, sz8, ok_int, ok_bl, ok_non, ok_tup, ok_lst, eqb_int, eqb_bl, at0, at1, at2, at3, at4, at5, beq_iff_eq, ite_true, ite_false, Bool.false_eq_true, if_true, if_false, true_and, and_true, false_and, Bool.not_true, Bool.not_false, List.getElem?_set_self hl, e1, ix4_2, List.set_set]
      split
      · refine fCons.go ?_
        simp only [fAsg, fPar, fPar2, fPar3, fIfS, fRet, fRetN, fDrop, fNil, fBreak, fCont, fAugN, fAugF, fApp, fRaise, mvL, moved, eVar, eVal, eOp2, eOp1, eTup, eLst, eNew, eIf, eAnd2, eOr2, eNot1, eFrz, asD, asB, eFld, eCall, eMake, eMeth, eSl, oNone, oSome, aNil, aCons, lNil, lCons, gNm, gFd, gIx, gTp, gsNil, gsCons, tTru, tBool, tAnd2, tOr2, tNot1, tYesD, addM_i, addM_s, addM_t, addM_oo, addM_bo, addM_ob, addM_lo, addM_ol, addM_ll, subM_i, mulM_i, mulM_o, fdivM_i, modM_i, intAddM_i, cmpM_i, min2M_i, max2M_i, negM_i, absM_i, toIntM_i, isnM_any, isN, eqM_i, eqM_b, eqM_s, eqM_t, ixM_t, ixM_o, ixM_l, ixM_k, ixM_r, ixM_b, truM_b, truM_i, truM_n, truM_t, truM_o, lenM, sumM, tupM, listM, slM, lget, lgetR, lput, iRng1D, iRng2D, iSeq, itOf, List.map_cons, List.map_nil, List.replicate_zero, List.replicate_succ, List.cons_append, List.nil_append, List.append_nil, List.getElem?_cons_succ, List.getElem?_cons_zero, List.set_cons_zero, List.set_cons_succ, List.length_cons, List.length_nil, Nat.reduceAdd, Nat.reduceSub, Nat.reduceLT, Nat.reduceLeDiff, Nat.sub_self, decide_eq_true_eq, sz0, sz1, sz2, sz3, sz4, sz5, sz6, sz7, sz8, ok_int, ok_bl, ok_non, ok_tup, ok_lst, eqb_int, eqb_bl, at0, at1, at2, at3, at4, at5, beq_iff_eq, ite_true, ite_false, Bool.false_eq_true, if_true, if_false, true_and, and_true, false_and, Bool.not_true, Bool.not_false, List.getElem?_set_self hl, ix4_3, ix4_2, List.set_set]
        refine ⟨mulOk_r (by decide) (by decide), by decide, ?_⟩
        refine fin (by simpa using hl) (by omega) (fun ds' h => ?_) (List.getElem?_set_self hl)
        rw [List.set_set]
        exact res h
      · refine fin (by simpa using hl) (by omega) (fun ds' h => ?_) (List.getElem?_set_self hl)
        rw [List.set_set]
        exact res h
    · refine fCons.go ?_
      simp only [fAsg, fPar, fPar2, fPar3, fIfS, fRet, fRetN, fDrop, fNil, fBreak, fCont, fAugN, fAugF, fApp, fRaise, mvL, moved, eVar, eVal, eOp2, eOp1, eTup, eLst, eNew, eIf, eAnd2, eOr2, eNot1, eFrz, asD, asB, eFld, eCall, eMake, eMeth, eSl, oNone, oSome, aNil, aCons, lNil, lCons, gNm, gFd, gIx, gTp, gsNil, gsCons, tTru, tBool, tAnd2, tOr2, tNot1, tYesD, addM_i, addM_s, addM_t, addM_oo, addM_bo, addM_ob, addM_lo, addM_ol, addM_ll, subM_i, mulM_i, mulM_o, fdivM_i, modM_i, intAddM_i, cmpM_i, min2M_i, max2M_i, negM_i, absM_i, toIntM_i, isnM_any, isN, eqM_i, eqM_b, eqM_s, eqM_t, ixM_t, ixM_o, ixM_l, ixM_k, ixM_r, ixM_b, truM_b, truM_i, truM_n, truM_t, truM_o, lenM, sumM, tupM, listM, slM, lget, lgetR, lput, iRng1D, iRng2D, iSeq, itOf, List.map_cons, List.map_nil, List.replicate_zero, List.replicate_succ, List.cons_append, List.nil_append, List.append_nil, List.getElem?_cons_succ, List.getElem?_cons_zero, List.set_cons_zero, List.set_cons_succ, List.length_cons, List.length_nil, Nat.reduceAdd, Nat.reduceSub, Nat.reduceLT, Nat.reduceLeDiff, Nat.sub_self, decide_eq_true_eq, sz0, sz1, sz2, sz3, sz4, sz5, sz6, sz7, sz8, ok_int, ok_bl, ok_non, ok_tup, ok_lst, eqb_int, eqb_bl, at0, at1, at2, at3, at4, at5, beq_iff_eq, ite_true, ite_false, Bool.false_eq_true, if_true, if_false, true_and, and_true, false_and, Bool.not_true, Bool.not_false, List.getElem?_set_self hl, ix4_3, ix4_2, List.set_set]
      refine ⟨mulOk_r (by decide) (by decide), by decide, ?_⟩
      refine fin (by simpa using hl) (by omega) (fun ds' h => ?_) (List.getElem?_set_self hl)
      rw [List.set_set]
      exact res h
  · exact fin hl hi (fun ds' h => res h) hm
/-! ### the store, place by place -/
/-- all but place n is as it was -/
def Oth (n : Nat) (μ μ' : Mu) : Prop := (∀ k, k ≠ n → μ'[k]? = μ[k]?) ∧ μ'.length = μ.length
theorem Oth.set (n : Nat) (μ : Mu) (o : MO) : Oth n μ (μ.set n o) := ⟨fun k h => List.getElem?_set_ne (Ne.symm h), by simp⟩
theorem Oth.refl (n : Nat) (μ : Mu) : Oth n μ μ := ⟨fun _ _ => rfl, rfl⟩
theorem Oth.trans {n : Nat} {μ μ' μ2 : Mu} (a : Oth n μ μ') (b : Oth n μ' μ2) : Oth n μ μ2 := ⟨fun k h => (b.1 k h).trans (a.1 k h), b.2.trans a.2⟩
theorem Oth.at {n k : Nat} {μ μ' : Mu} {o : MO} (a : Oth n μ μ') (h : k ≠ n) (e : μ[k]? = some o) : μ'[k]? = some o := (a.1 k h).trans e
/-- a draw stands at n -/
def Draw (μ : Mu) (n : Nat) : Prop := ∃ ds, μ[n]? = some (.lst ds) ∧ DrawL ds
theorem Draw.oth {μ μ' : Mu} {n k : Nat} (d : Draw μ n) (o : Oth k μ μ') (h : n ≠ k) : Draw μ' n := let ⟨ds, e, w⟩ := d; ⟨ds, o.at h e, w⟩
theorem Draw.app {μ : Mu} {n : Nat} (d : Draw μ n) (l : Mu) : Draw (μ ++ l) n := by
  obtain ⟨ds, e, w⟩ := d
  exact ⟨ds, by rw [List.getElem?_append_left (List.getElem?_eq_some_iff.mp e).1]; exact e, w⟩
theorem Draw.lt {μ : Mu} {n : Nat} (d : Draw μ n) : n < μ.length := let ⟨_, e, _⟩ := d; (List.getElem?_eq_some_iff.mp e).1
theorem take_ {n : Nat} {many : Int} {μ : Mu} {C : P → Mu → Prop} {E : CX} (d : Draw μ n) (h1 : 0 < many) (h2 : many < 2 ^ 64) (hC : ∀ v μ', 0 ≤ v → v < many → Draw μ' n → Oth n μ μ' → C (.val (.int v)) μ') : fnDen 2 3 bTake [.ref n, .int many] μ C E := by
  obtain ⟨ds, e, w⟩ := d
  exact den_take e w h1 h2 fun v ds' v1 v2 w' => hC v _ v1 v2 ⟨ds', List.getElem?_set_self (List.getElem?_eq_some_iff.mp e).1, w'⟩ (Oth.set n μ _)
theorem draw_ {zs : List Int} {μ : Mu} {C : P → Mu → Prop} {E : CX} (hz : zs.length ≤ 1000) (hC : ∀ μ', Draw μ' μ.length → μ'.length = μ.length + 1 → (∀ k, k < μ.length → μ'[k]? = μ[k]?) → C (.val (.ref μ.length)) μ') : fnDen 1 3 bDraw [.kls (zs.map D.int)] μ C E :=
  den_draw hz fun ds w => hC _ ⟨ds, by simp, w⟩ (by simp) fun k lt => List.getElem?_append_left lt
/-- one of a few -/
theorem pick2 {w : Int} {x y : D} (h1 : 0 ≤ w) (h2 : w < 2) : ∃ d, atI [x, y] w = some d ∧ (d = x ∨ d = y) := by
  have : w = 0 ∨ w = 1 := by omega
  rcases this with rfl | rfl
  · exact ⟨x, at0, .inl rfl⟩
  · exact ⟨y, at1, .inr rfl⟩
theorem pick3 {w : Int} {x y z : D} (h1 : 0 ≤ w) (h2 : w < 3) : ∃ d, atI [x, y, z] w = some d ∧ (d = x ∨ d = y ∨ d = z) := by
  have : w = 0 ∨ w = 1 ∨ w = 2 := by omega
  rcases this with rfl | rfl | rfl
  · exact ⟨x, at0, .inl rfl⟩
  · exact ⟨y, at1, .inr (.inl rfl)⟩
  · exact ⟨z, at2, .inr (.inr rfl)⟩
theorem pick4 {w : Int} {x y z u : D} (h1 : 0 ≤ w) (h2 : w < 4) : ∃ d, atI [x, y, z, u] w = some d ∧ (d = x ∨ d = y ∨ d = z ∨ d = u) := by
  have : w = 0 ∨ w = 1 ∨ w = 2 ∨ w = 3 := by omega
  rcases this with rfl | rfl | rfl | rfl
  · exact ⟨x, at0, .inl rfl⟩
  · exact ⟨y, at1, .inr (.inl rfl)⟩
  · exact ⟨z, at2, .inr (.inr (.inl rfl))⟩
  · exact ⟨u, at3, .inr (.inr (.inr rfl))⟩
/-- .. of ints -/
theorem pick2i {w x y : Int} (h1 : 0 ≤ w) (h2 : w < 2) : ∃ d : Int, atI [D.int x, D.int y] w = some (.int d) ∧ (d = x ∨ d = y) := by
  obtain ⟨d, e, rfl | rfl⟩ := pick2 (x := D.int x) (y := D.int y) h1 h2
  · exact ⟨x, e, .inl rfl⟩
  · exact ⟨y, e, .inr rfl⟩
theorem pick3i {w x y z : Int} (h1 : 0 ≤ w) (h2 : w < 3) : ∃ d : Int, atI [D.int x, D.int y, D.int z] w = some (.int d) ∧ (d = x ∨ d = y ∨ d = z) := by
  obtain ⟨d, e, rfl | rfl | rfl⟩ := pick3 (x := D.int x) (y := D.int y) (z := D.int z) h1 h2
  · exact ⟨x, e, .inl rfl⟩
  · exact ⟨y, e, .inr (.inl rfl)⟩
  · exact ⟨z, e, .inr (.inr rfl)⟩
theorem pick4i {w x y z u : Int} (h1 : 0 ≤ w) (h2 : w < 4) : ∃ d : Int, atI [D.int x, D.int y, D.int z, D.int u] w = some (.int d) ∧ (d = x ∨ d = y ∨ d = z ∨ d = u) := by
  obtain ⟨d, e, rfl | rfl | rfl | rfl⟩ := pick4 (x := D.int x) (y := D.int y) (z := D.int z) (u := D.int u) h1 h2
  · exact ⟨x, e, .inl rfl⟩
  · exact ⟨y, e, .inr (.inl rfl)⟩
  · exact ⟨z, e, .inr (.inr (.inl rfl))⟩
  · exact ⟨u, e, .inr (.inr (.inr rfl))⟩
/-! ### slices, subscripts of plain lists -/
theorem cut_at {α : Type} {xs : List α} {x y : Int} {k n : Nat} (hx : x = k) (hy : y = n) (h : k ≤ n) (h2 : n ≤ xs.length) : cutL xs (some x) (some y) = (xs.drop k).take (n - k) := by
  subst hx hy
  unfold cutL
  rw [HT.sIx_nat, HT.sIx_nat, Nat.min_eq_left h2, Nat.min_eq_left (by omega)]
theorem at_map {α : Type} {f : α → D} {xs : List α} {x : Int} {k : Nat} {v : α} (hx : x = k) (h : xs[k]? = some v) : atI (xs.map f) x = some (f v) := by
  subst hx
  exact atI_nat (by rw [List.getElem?_map, h]; rfl)
theorem set_same {μ : Mu} {n : Nat} {o : MO} (h : μ[n]? = some o) : μ.set n o = μ := by
  refine List.ext_getElem? fun j => ?_
  by_cases e : n = j
  · subst e
    rw [List.getElem?_set_self (List.getElem?_eq_some_iff.mp h).1, h]
  · rw [List.getElem?_set_ne e]
theorem small {i : Int} (h1 : -(2 ^ 64) < i) (h2 : i < 2 ^ 64) : i.natAbs.log2 < 1920 := Nat.lt_of_lt_of_le (PySem.Flt.log2_lt_of (k := 64) (by decide) (by omega)) (by decide)
end NT

/-! NT: sorted(..) of ints and of tuples of ints. -/
namespace NT
open PySem PySem.Spec PyProof.Rows L2 Srt SrtO

/-! ### rows of ints in order -/
def lexI : List Int → List Int → Bool
  | x :: xs, y :: ys => if x = y then lexI xs ys else decide (x < y)
  | [], _ :: _ => true
  | _, [] => false
theorem lexI_irr : ∀ l : List Int, lexI l l = false
  | [] => rfl
  | x :: l => by simp only [lexI, if_true, lexI_irr l]
theorem lexI_asym : ∀ l m : List Int, lexI l m = true → lexI m l = false
  | [], [], h => by simp [lexI] at h
  | [], _ :: _, _ => rfl
  | _ :: _, [], h => by simp [lexI] at h
  | x :: l, y :: m, h => by
    simp only [lexI] at h ⊢
    by_cases e : x = y
    · subst e
      rw [if_pos rfl] at h ⊢
      exact lexI_asym l m h
    · rw [if_neg e] at h
      rw [if_neg (Ne.symm e)]
      have := of_decide_eq_true h
      exact decide_eq_false (by omega)
theorem lexI_tr : ∀ l m n : List Int, lexI m l = false → lexI n m = false → lexI n l = false
  | [], [], [], _, _ => rfl
  | [], [], _ :: _, _, _ => rfl
  | [], _ :: _, [], _, h => by simp [lexI] at h
  | [], _ :: _, _ :: _, _, _ => rfl
  | _ :: _, [], _, h, _ => by simp [lexI] at h
  | _ :: _, _ :: _, [], _, h => by simp [lexI] at h
  | x :: l, y :: m, z :: n, h1, h2 => by
    simp only [lexI] at h1 h2 ⊢
    by_cases e1 : y = x
    · subst e1
      rw [if_pos rfl] at h1
      by_cases e2 : z = y
      · subst e2
        rw [if_pos rfl] at h2 ⊢
        exact lexI_tr l m n h1 h2
      · rw [if_neg e2] at h2 ⊢
        exact h2
    · rw [if_neg e1] at h1
      have a := of_decide_eq_false h1
      by_cases e2 : z = y
      · subst e2
        rw [if_neg e1]
        exact h1
      · rw [if_neg e2] at h2
        have b := of_decide_eq_false h2
        rw [if_neg (by omega)]
        exact decide_eq_false (by omega)
theorem swo_lexI {α : Type} (k : α → List Int) : Swo fun v u => lexI (k v) (k u) := ⟨fun x y h => lexI_asym _ _ h, fun x y z h1 h2 => lexI_tr _ _ _ h1 h2⟩
section
variable {prog : Program} {w : World} {A : Around} {E : Value → Shared → Prop} {s : Shared} {Q : Bool → Shared → Prop}
theorem lex_rows {b : Bool} {xs ys : List Value} {ns ms : List Int} (i : Nat) (hx : IntsAre xs ns) (hy : IntsAre ys ms) (hl : ns.length = ms.length) (h : Q (lexI ns ms) s) : PySem.W.KatLex prog w A b false Q (xs.zip ys) i s := by
  induction hx generalizing ys ms i with
  | nil =>
    cases hy with
    | nil => exact PySem.W.kat_nil h
    | cons q u hy => simp at hl
  | @cons p t xs ns hx ih =>
    cases hy with
    | nil => simp at hl
    | @cons q u ys ms hy =>
      have hl' : ns.length = ms.length := by simpa using hl
      show PySem.W.KatLex prog w A b false Q ((Value.int p t, Value.int q u) :: xs.zip ys) i s
      refine PySem.W.kat_cons (wpAny_eqBool_int ?_)
      simp only [lexI] at h
      by_cases e : p = q
      · subst e
        rw [if_pos rfl] at h
        rw [beq_self_eq_true]
        refine PySem.W.kat_yes ?_
        first
          | exact ih (i + 1) hy hl' h
          | exact ih _ _ (i + 1) hy hl' h
      · rw [if_neg e] at h
        rw [show (p == q) = false from beq_eq_false_iff_ne.mpr e]
        exact PySem.W.kat_no (TS.oneLt_ints _ h)
/-- tuples of d ints each -/
def TupsD (h : Heap) (d : Nat) (vs : List Value) : Prop := ∀ v, v ∈ vs → ∃ ns, TS.TupInts h v ns ∧ ns.length = d
theorem heads_of {h : Heap} {d : Nat} (hd : 1 ≤ d) : ∀ vs : List Value, TupsD h d vs → ∃ fs, PySem.W.KatTups h vs fs ∧ fs.length = vs.length ∧ ∀ f, f ∈ fs → ∃ n t, f = Value.int n t
  | [], _ => ⟨[], PySem.W.KatTups.nil, rfl, fun f hf => by simp at hf⟩
  | v :: vs, x => by
    obtain ⟨fs, k, hl, hi⟩ := heads_of hd vs fun u hu => x u (List.mem_cons_of_mem _ hu)
    obtain ⟨ns, ⟨a, xs, rfl, ⟨o, ho, hc, n, hdt⟩, i⟩, hn⟩ := x v List.mem_cons_self
    have l := i.length
    cases q : xs.toList with
    | nil =>
      rw [q, List.length_nil, hn] at l
      omega
    | cons y ys =>
      obtain ⟨m, t, hy⟩ := i.all y (by rw [q]; exact List.mem_cons_self)
      refine ⟨y :: fs, PySem.W.KatTups.cons ho hc hdt ?_ k, by simp [hl], fun f hf => ?_⟩
      · have z := congrArg (fun l : List Value => l[0]?) q
        simpa using z
      · rcases List.mem_cons.mp hf with rfl | hf
        · exact ⟨m, t, hy⟩
        · exact hi f hf
theorem rows_cmp {d : Nat} {vs : List Value} {k : Value → List Int} (hk : ∀ v ∈ vs, TS.TupInts s.heap v (k v) ∧ (k v).length = d) : SrtO.Cmp prog w A s (tuples' true) (fun p => p.1 ∈ vs) (lt2 fun v u => lexI (k v) (k u)) := by
  intro p q hm hm'
  obtain ⟨⟨a, xs, e1, ⟨o, ho, hc, n, hdt⟩, i⟩, l1⟩ := hk _ hm
  obtain ⟨⟨a', ys, e2, ⟨o', ho', hc', n', hdt'⟩, i'⟩, l2⟩ := hk _ hm'
  show wpAny (model prog w) A (keyLt' (tuples' true) p.1 q.1) (fun r s' => s' = s ∧ r = lexI (k p.1) (k q.1)) (fun _ _ => False) s
  generalize k p.1 = ns at i l1 ⊢
  generalize k q.1 = ms at i' l2 ⊢
  rw [e1, e2]
  refine PySem.W.kat_lt ho hdt ho' hdt' ?_
  have sz : decide (xs.size < ys.size) = false := by
    have a1 := i.length
    have a2 := i'.length
    rw [Array.length_toList] at a1 a2
    exact decide_eq_false (by omega)
  rw [sz]
  exact lex_rows 0 i i' (by omega) ⟨rfl, rfl⟩
theorem rows_sortable {a : Addr} {d : Nat} {vs : List Value} {k : Value → List Int} (hd : 1 ≤ d) (h0 : 0 < vs.length) (hk : ∀ v ∈ vs, TS.TupInts s.heap v (k v) ∧ (k v).length = d) (ha : ∀ o, s.heap.get? a = some o → o.cls ≠ .type "tuple") :
    SortableO prog w A s a vs fun v u => lexI (k v) (k u) := by
  intro h' keep
  have hk' : ∀ v ∈ vs, TS.TupInts h' v (k v) ∧ (k v).length = d := fun v hm => ⟨(hk v hm).1.keeps fun b o e c => keep b o (fun z => by subst z; exact ha o e c) e, (hk v hm).2⟩
  obtain ⟨fs, h1, h2, h3⟩ := heads_of hd vs fun v hm => ⟨_, hk' v hm⟩
  refine ⟨tuples' true, fun Q E hq => ?_, rows_cmp hk'⟩
  refine PySem.W.kat_kind (T := .type "int") h1 (by omega) (fun f hm => ?_) (by rfl) ?_
  · obtain ⟨x, t, rfl⟩ := h3 f hm
    exact PySem.W.Looks.now
  · rw [show (Value.type "int" != Value.type "tuple") = true by first | decide +kernel | rfl | decide]
    exact hq
end
/-- sorted(xs) of tuples of d ints, any number of them -/
def rSortR (K : PySem.W.Frag) : List V → Hp → VK → Prop := fun vs H Q => ∃ (a : Addr) (xs : List V) (ks : List (List Int)) (d : Nat), vs = [V.ref a] ∧ SqL K H a xs ∧ 1 ≤ d ∧ xs.length = ks.length ∧
  (∀ p ∈ xs.zip ks, ∃ t, p.1 = V.ref t ∧ SqT K H t (p.2.map V.int) ∧ p.2.length = d) ∧
  ∀ (zs : List (V × List Int)) (p : Addr), zs.Perm (xs.zip ks) → zs.Pairwise (fun x y => lexI y.2 x.2 = false) → H p = none → Q (.ref p) (upd H p (.lst (zs.map (·.1))))
section
variable {X : Cx}
theorem zip_left {α β : Type} : ∀ {xs : List α} {ks : List β}, xs.length = ks.length → ∀ x ∈ xs, ∃ k, (x, k) ∈ xs.zip ks
  | [], _, _, x, h => by simp at h
  | y :: xs, [], e, _, _ => by simp at e
  | y :: xs, k :: ks, e, x, h => by
    rcases List.mem_cons.mp h with q | q
    · exact ⟨k, by rw [q]; exact List.mem_cons_self⟩
    · obtain ⟨k', hk⟩ := zip_left (xs := xs) (ks := ks) (by simpa using e) x q
      exact ⟨k', List.mem_cons_of_mem _ hk⟩
/-- the keys, read off the heap -/
theorem keys_read {h : Heap} : ∀ {xs : List V} {us : List Value} {ks : List (List Int)}, Vals xs us → xs.length = ks.length → (∀ p ∈ xs.zip ks, ∃ t, p.1 = V.ref t ∧ TS.TupInts h (.ref t) p.2) →
    xs.zip ks = us.map (fun u => (backV u, TS.intsOf h u)) ∧ ∀ u ∈ us, ∃ k, (backV u, k) ∈ xs.zip ks ∧ TS.TupInts h u k ∧ TS.intsOf h u = k
  | _, _, [], .nil, _, _ => ⟨rfl, fun u hu => absurd hu (by simp)⟩
  | _, _, [], .cons _ _, e, _ => by simp at e
  | _, _, _ :: _, .nil, e, _ => by simp at e
  | x :: xs, u :: us, k :: ks, .cons r t, e, h0 => by
    obtain ⟨a, e1, e2⟩ := h0 (x, k) List.mem_cons_self
    have e1' : x = V.ref a := e1
    subst e1'
    obtain rfl : u = Value.ref a := r
    obtain ⟨q1, q2⟩ := keys_read t (by simpa using e) fun p hp => h0 p (List.mem_cons_of_mem _ hp)
    have ke := e2.ints
    refine ⟨?_, fun u hu => ?_⟩
    · rw [List.zip_cons_cons, List.map_cons, ← q1, ke]
      rfl
    · rcases List.mem_cons.mp hu with z | z
      · rw [z]
        exact ⟨k, List.mem_cons_self, e2, ke⟩
      · obtain ⟨k', z1, z2, z3⟩ := q2 u z
        exact ⟨k', List.mem_cons_of_mem _ z1, z2, z3⟩
theorem cr_sortR : CallR X (.builtin "sorted") (rSortR X.K) := by
  intro pins s σ H vs us Q I r h
  obtain ⟨a, xs, ks, d, rfl, hs, hd, hl, hx, q⟩ := h
  obtain ⟨its, rv, hi, hz⟩ := I.list hs
  obtain ⟨u, rfl, ru⟩ := vals1 r
  obtain rfl : u = Value.ref a := ru
  have tups : ∀ p ∈ xs.zip ks, ∃ t, p.1 = V.ref t ∧ TS.TupInts s.heap (.ref t) p.2 := fun p hp => by
    obtain ⟨t, e1, e2, _⟩ := hx p hp
    obtain ⟨js, rj, ⟨o, ho, hc, n, hdt⟩, _⟩ := I.tuple e2
    exact ⟨t, e1, t, js.toArray, rfl, ⟨o, ho, hc, n, hdt⟩, by simpa using rj.ints⟩
  obtain ⟨e1, e2⟩ := refs_back rv fun x m => by
    obtain ⟨k, hk⟩ := zip_left hl x m
    obtain ⟨t, e, _⟩ := hx _ hk
    exact ⟨t, e⟩
  obtain ⟨z1, z2⟩ := keys_read rv hl tups
  have hk : ∀ v ∈ its, TS.TupInts s.heap v (TS.intsOf s.heap v) ∧ (TS.intsOf s.heap v).length = d := fun v hv => by
    obtain ⟨k, m, t, e⟩ := z2 v hv
    obtain ⟨_, _, _, l⟩ := hx _ m
    rw [e]
    exact ⟨t, l⟩
  refine sorted_ord (swo_lexI (TS.intsOf s.heap)) hi.isList (by rw [← rv.length]; exact hz) (fun h2 h₁ b hb keep => ?_) fun out hs hb => ?_
  · refine rows_sortable (s := { s with heap := h₁ }) hd (by omega) (fun v hm => ⟨(hk v hm).1.keeps fun b o e _ => (keep b o e).2, (hk v hm).2⟩) fun o e => ?_
    have e' : some o = some (seqObj "list" its.toArray 0) := e.symm.trans hb
    cases e'
    intro c
    exact absurd (Value.type.inj c) (by decide)
  · have h3 : ∀ u ∈ out, ∃ a, u = Value.ref a := fun u hu => e2 u (hb.perm.mem_iff.mp hu)
    obtain ⟨n, hn⟩ := sortedAll_at s.heap its out.toArray
    have hd' : s.heap.objs.size ≤ s.heap.objs.size + 1 := Nat.le_succ _
    have key := q (out.map fun u => (backV u, TS.intsOf s.heap u)) (s.heap.objs.size + 1) (by rw [z1]; exact hb.perm.map _) (List.pairwise_map.mpr hs) (I.hok.fresh hd')
    rw [List.map_map] at key
    refine ⟨.ref (s.heap.objs.size + 1), upd H (s.heap.objs.size + 1) (.lst (out.map backV)), I.laid (t' := s.toks) (fun b o e => sortedAll_old e) hd' ⟨?_, out, n, vals_back h3, hn⟩, rfl, key⟩
    rw [List.length_map, hb.len, ← rv.length]
    exact hz
end
/-! ### by trees -/
def rowD (l : List Int) : D := .tup (l.map D.int)
def rowsOf : List D → Option (List (List Int))
  | [] => some []
  | .tup ds :: r => (match intsOf ds with | some ns => (rowsOf r).map (ns :: ·) | none => none)
  | _ => none
theorem intsOf_eq : ∀ {ds : List D} {ns : List Int}, intsOf ds = some ns → ds = ns.map D.int
  | [], _, h => by simp only [intsOf, Option.some.injEq] at h; subst h; rfl
  | d :: ds, ns, h => by
    cases d with
    | int i =>
      simp only [intsOf] at h
      cases q : intsOf ds with
      | none => rw [q] at h; cases h
      | some ms =>
        rw [q] at h
        simp only [Option.map_some, Option.some.injEq] at h
        subst h
        rw [List.map_cons, ← intsOf_eq q]
    | _ => simp [intsOf] at h
theorem rowsOf_eq : ∀ {ds : List D} {L : List (List Int)}, rowsOf ds = some L → ds = L.map rowD
  | [], _, h => by simp only [rowsOf, Option.some.injEq] at h; subst h; rfl
  | d :: ds, L, h => by
    cases d with
    | tup xs =>
      simp only [rowsOf] at h
      cases q : intsOf xs with
      | none => rw [q] at h; cases h
      | some ns =>
        rw [q] at h
        dsimp only at h
        cases q2 : rowsOf ds with
        | none => rw [q2] at h; cases h
        | some M =>
          rw [q2] at h
          simp only [Option.map_some, Option.some.injEq] at h
          subst h
          rw [List.map_cons, ← rowsOf_eq q2]
          show _ = D.tup _ :: _
          rw [← intsOf_eq q]
    | _ => simp [rowsOf] at h
theorem rowsOf_map : ∀ L : List (List Int), rowsOf (L.map rowD) = some L
  | [] => rfl
  | l :: L => by
    show (match intsOf (l.map D.int) with | some ns => (rowsOf (L.map rowD)).map (ns :: ·) | none => none) = _
    rw [intsOf_map, rowsOf_map L]
    rfl
/-- sorted(xs): ints, or tuples of as many ints each -/
def sortM : M1 := fun p δ μ C => match lget δ μ p with
  | some ds => (match intsOf ds with
    | some ns => ∀ ns' : List Int, ns'.Perm ns → ns'.Pairwise (· ≤ ·) → ∀ a, C (.own a (ns'.map D.int)) μ
    | none => (match rowsOf ds with
      | some L => (∃ d, 1 ≤ d ∧ ∀ l ∈ L, l.length = d) ∧ ∀ L' : List (List Int), L'.Perm L → L'.Pairwise (fun x y => lexI y x = false) → ∀ a, C (.own a (L'.map rowD)) μ
      | none => False))
  | none => False
theorem call_sorted {X : Cx} : CallR X (.builtin "sorted") (fun vs H Q => rSortedI X.K vs H Q ∨ rSortR X.K vs H Q) := fun pins s σ H vs us Q I r h => h.elim (cr_sortedI pins s σ H vs us Q I r) (cr_sortR pins s σ H vs us Q I r)
theorem reps_zs {K : PySem.W.Frag} {ρ : List Addr} {H : Hp} : ∀ {zs : List (V × List Int)}, (∀ z ∈ zs, Rep K ρ H (rowD z.2) z.1) → Reps K ρ H ((zs.map (·.2)).map rowD) (zs.map (·.1))
  | [], _ => reps_nil
  | z :: zs, h => reps_cons (h z List.mem_cons_self) (reps_zs fun y hy => h y (List.mem_cons_of_mem _ hy))
theorem reps_zip {K : PySem.W.Frag} {ρ : List Addr} {H : Hp} : ∀ {L : List (List Int)} {xs : List V}, Reps K ρ H (L.map rowD) xs → xs.length = L.length ∧ ∀ z ∈ xs.zip L, Rep K ρ H (rowD z.2) z.1
  | [], _, h => by
    simp only [List.map_nil, Reps] at h
    subst h
    exact ⟨rfl, fun z hz => by simp at hz⟩
  | l :: L, _, h => by
    simp only [List.map_cons, Reps] at h
    obtain ⟨v, r, rfl, h1, h2⟩ := h
    obtain ⟨e1, e2⟩ := reps_zip h2
    refine ⟨by simp [e1], fun z hz => ?_⟩
    rw [List.zip_cons_cons] at hz
    rcases List.mem_cons.mp hz with q | q
    · rw [q]; exact h1
    · exact e2 z q
theorem br_sort {K : PySem.W.Frag} : Br1 K (fun x H Q => rSortedI K [x] H Q ∨ rSortR K [x] H Q) sortM := by
  intro ρ μ δ σ H p x C Q ho rp ap c hC
  unfold sortM at c
  split at c
  · rename_i ds hl
    obtain ⟨a, xs, rfl, e2, e3⟩ := lget_ok ho rp hl
    split at c
    · rename_i ns hn
      rw [intsOf_ok e3 hn] at e2
      refine .inl ⟨a, ns, rfl, e2, fun ns' q h1 h2 nq => ?_⟩
      have rs : Reps K ρ H (ns'.map D.int) (ns'.map V.int) := reps_ints ns'
      obtain ⟨ev, rp'⟩ := ho.newList nq rs
      exact hC _ _ (c ns' h1 h2 q) _ _ _ ev rp'
    · split at c
      · rename_i L hL
        obtain ⟨⟨d, d1, dl⟩, c⟩ := c
        have e4 := rowsOf_eq hL
        subst e4
        obtain ⟨len, zr⟩ := reps_zip e3
        refine .inr ⟨a, xs, L, d, rfl, e2, d1, len, fun z hz => ?_, fun zs q h1 h2 nq => ?_⟩
        · have r := zr z hz
          simp only [rowD, Rep] at r
          obtain ⟨t, ys, g1, g2, g3⟩ := r
          rw [intsOf_ok g3 (intsOf_map _)] at g2
          exact ⟨t, g1, g2.seq, dl _ (List.of_mem_zip hz).2⟩
        · have hm : ∀ z ∈ zs, Rep K ρ H (rowD z.2) z.1 := fun z hz => zr z (h1.mem_iff.mp hz)
          obtain ⟨ev, rp'⟩ := ho.newList nq (reps_zs hm)
          have perm : (zs.map (·.2)).Perm L := by
            have := h1.map (·.2)
            rwa [List.map_snd_zip (by omega)] at this
          exact hC _ _ (c _ perm (List.pairwise_map.mpr h2) q) _ _ _ ev rp'
      · exact c.elim
  · exact c.elim
section
variable {X : Cx} {W : WX} {a : Expr} {fa : FE} {p pos : Pos}
theorem e_sorted (hm : X.mg "sorted" = none) (ha : EF X W a fa) (hg : Gl X "sorted" := by rfl) (he : starEach [a] X.env = (false, eval a X.env) :: starEach [] X.env := by rfl) : EF X W (.Call (.Name "sorted" p) [a] [] pos) (eOp1 sortM fa) :=
  e_callB call_sorted br_sort hm (by decide +kernel) ha hg (by decide) (by decide) he
end
end NT

/-! NT: data that is short when shown; _law_same. -/
namespace NT
open PySem PySem.Spec PyProof.Rows L2

mutual
/-- ints of 64 bits, bools, None, rows of such -/
def D.small : D → Bool
  | .non => true
  | .bl _ => true
  | .int i => decide (i.natAbs < 2 ^ 64)
  | .str _ => false
  | .tup ds => D.smalls ds
  | .lst ds => D.smalls ds
  | .kls ds => D.smalls ds
  | .ref _ => false
def D.smalls : List D → Bool
  | [] => true
  | d :: ds => d.small && D.smalls ds
end
mutual
def D.nd : D → Nat
  | .tup ds => 1 + D.nds ds
  | .lst ds => 1 + D.nds ds
  | .kls ds => 1 + D.nds ds
  | _ => 1
def D.nds : List D → Nat
  | [] => 0
  | d :: ds => d.nd + D.nds ds
end
theorem log_small {i : Int} (h : i.natAbs < 2 ^ 64) : i.natAbs.log2 < 64 := PySem.Flt.log2_lt_of (k := 64) (by decide) h
theorem pys_len : ∀ ds : List D, (PyData.shownAll (D.pys ds)).length = ds.length
  | [] => by simp only [D.pys, PyData.shownAll, List.length_nil]
  | d :: ds => by simp only [D.pys, PyData.shownAll, List.length_cons, pys_len ds]
mutual
theorem show_small : ∀ d : D, d.small = true → d.py.showable = true ∧ d.py.shown.length + 2 ≤ 100 * d.nd
  | .non, _ => by simp only [D.py, PyData.showable, PyData.shown, D.nd]; exact ⟨trivial, by decide +kernel⟩
  | .bl true, _ => by simp only [D.py, PyData.showable, PyData.shown, D.nd]; exact ⟨trivial, by decide +kernel⟩
  | .bl false, _ => by simp only [D.py, PyData.showable, PyData.shown, D.nd]; exact ⟨trivial, by decide +kernel⟩
  | .int i, h => by
    simp only [D.small, decide_eq_true_eq] at h
    have l := log_small h
    simp only [D.py, PyData.showable, PyData.shown, D.nd]
    refine ⟨decide_eq_true (Nat.lt_trans l (by decide)), ?_⟩
    have : (Str.ofString (toString i)).length ≤ 65 := by
      rw [PySem.ofString_length]
      exact int_text_length_le (k := 64) (by decide) l
    exact Nat.le_trans (Nat.add_le_add_right this 2) (by decide)
  | .str _, h => by simp [D.small] at h
  | .ref _, h => by simp [D.small] at h
  | .tup ds, h => by
    simp only [D.small] at h
    obtain ⟨h1, h2⟩ := show_smalls ds h
    simp only [D.py, PyData.showable, PyData.shown, D.nd]
    have := tupleText_len_le (PyData.shownAll (D.pys ds))
    rw [pys_len] at this
    exact ⟨h1, by omega⟩
  | .lst ds, h => by
    simp only [D.small] at h
    obtain ⟨h1, h2⟩ := show_smalls ds h
    simp only [D.py, PyData.showable, PyData.shown, D.nd]
    have := listText_len_le (PyData.shownAll (D.pys ds))
    rw [pys_len] at this
    exact ⟨h1, by omega⟩
  | .kls ds, h => by
    simp only [D.small] at h
    obtain ⟨h1, h2⟩ := show_smalls ds h
    simp only [D.py, PyData.showable, PyData.shown, D.nd]
    have := listText_len_le (PyData.shownAll (D.pys ds))
    rw [pys_len] at this
    exact ⟨h1, by omega⟩
theorem show_smalls : ∀ ds : List D, D.smalls ds = true → PyData.showableAll (D.pys ds) = true ∧ ((PyData.shownAll (D.pys ds)).map (·.length)).sum + 2 * ds.length ≤ 100 * D.nds ds
  | [], _ => by simp [D.pys, PyData.showableAll, PyData.shownAll, D.nds]
  | d :: ds, h => by
    simp only [D.smalls, Bool.and_eq_true] at h
    obtain ⟨a1, a2⟩ := show_small d h.1
    obtain ⟨b1, b2⟩ := show_smalls ds h.2
    simp only [D.pys, PyData.showableAll, PyData.shownAll, D.nds, List.map_cons, List.sum_cons, List.length_cons, a1, b1, Bool.and_self, true_and]
    omega
end
theorem reprOk_small {d : D} (h1 : d.ok 60 = true) (h2 : d.small = true) (h3 : d.nd ≤ 100000) : ReprOk d := by
  obtain ⟨a, b⟩ := show_small d h2
  refine ⟨h1, a, ?_⟩
  have : sizeLine = 16777216 := by decide
  omega
theorem ok_le : ∀ (n : Nat) (d : D), d.ok n = true → ∀ m, n ≤ m → d.ok m = true
  | 0, d, h, m, _ => by
    cases d with
    | tup ds => simp [D.ok] at h
    | lst ds => simp [D.ok] at h
    | kls ds => simp [D.ok] at h
    | ref k => simp [D.ok] at h
    | str s => rw [ok_str] at h ⊢; exact h
    | non => exact ok_non
    | bl b => exact ok_bl
    | int i => exact ok_int
  | n + 1, d, h, 0, hm => absurd hm (by omega)
  | n + 1, d, h, m + 1, hm => by
    have hm' : n ≤ m := by omega
    cases d with
    | tup ds => rw [ok_tup, List.all_eq_true] at h ⊢; exact fun x hx => ok_le n x (h x hx) m hm'
    | lst ds => rw [ok_lst, List.all_eq_true] at h ⊢; exact fun x hx => ok_le n x (h x hx) m hm'
    | kls ds =>
      have h' : ds.all (D.ok n) = true := h
      show ds.all (D.ok m) = true
      rw [List.all_eq_true] at h' ⊢
      exact fun x hx => ok_le n x (h' x hx) m hm'
    | ref k => simp [D.ok] at h
    | str s => rw [ok_str] at h ⊢; exact h
    | non => exact ok_non
    | bl b => exact ok_bl
    | int i => exact ok_int
theorem eqM_same {d : D} {neg : Bool} {δ : Sl} {μ : Mu} {C : P → Mu → Prop} (h : d.ok 64 = true) : eqM neg (.val d) (.val d) δ μ C = C (.val (.bl (!neg))) μ := by
  have n := D.ok_noref _ _ h
  have e := D.eqb_refl d n
  cases d with
  | ref k => simp [D.noref] at n
  | str s =>
    show C (.val (.bl (if neg then !(s == s) else s == s))) μ = _
    cases neg <;> simp
  | _ =>
    simp only [eqM, pd, h, e, and_self, true_and]
    cases neg <;> rfl
/-! ### _law_same(d, d) -/
def bSame : FS := fRet (eAnd2 (eOp2 (eqM false) (eVar 0) (eVar 1)) (eOp2 (eqM false) (eOp1 reprM (eVar 0)) (eOp1 reprM (eVar 1))))
theorem same_i {i : Int} {μ : Mu} {C : P → Mu → Prop} {E : CX} (h : i.natAbs.log2 < 1920) (hC : C (.val (.bl true)) μ) : fnDen 2 2 bSame [.int i, .int i] μ C E := by
  refine ⟨rfl, ?_⟩
  simp only [bSame, fRet, eAnd2, eOp2, eVar, List.map_cons, List.map_nil, List.cons_append, List.nil_append, List.getElem?_cons_zero, List.getElem?_cons_succ, eqM_i, beq_self_eq_true, Bool.false_eq_true, if_false, if_true, eOp1, reprM, h, true_and, eqM_s]
  exact hC
theorem same_t {ds : List D} {μ : Mu} {C : P → Mu → Prop} {E : CX} (h1 : (D.tup ds).ok 60 = true) (h2 : (D.tup ds).small = true) (h3 : (D.tup ds).nd ≤ 100000) (hC : C (.val (.bl true)) μ) : fnDen 2 2 bSame [.tup ds, .tup ds] μ C E := by
  have r := reprOk_small h1 h2 h3
  have o := ok_le 60 _ h1 64 (by decide)
  refine ⟨rfl, ?_⟩
  simp only [bSame, fRet, eAnd2, eOp2, eVar, List.map_cons, List.map_nil, List.cons_append, List.nil_append, List.getElem?_cons_zero, List.getElem?_cons_succ, eqM_same o, Bool.not_false, if_true, eOp1, reprM, pd, r, true_and, eqM_s, beq_self_eq_true, Bool.false_eq_true, if_false]
  exact hC
/-- sorted(xs) of rows -/
theorem sortM_rows {p : P} {δ : Sl} {μ : Mu} {C : P → Mu → Prop} {L : List (List Int)} {d : Nat} (hl : lget δ μ p = some (L.map rowD)) (h1 : 1 ≤ d) (h2 : ∀ l ∈ L, l.length = d) (hC : ∀ L' : List (List Int), L'.Perm L → L'.Pairwise (fun x y => lexI y x = false) → ∀ a, C (.own a (L'.map rowD)) μ) : sortM p δ μ C := by
  unfold sortM
  rw [hl]
  cases L with
  | nil =>
    show ∀ ns' : List Int, ns'.Perm [] → ns'.Pairwise (· ≤ ·) → ∀ a, C (.own a (ns'.map D.int)) μ
    intro ns' hp _ a
    have e : ns' = [] := List.length_eq_zero_iff.mp (by simpa using hp.length_eq)
    subst e
    exact hC [] (List.Perm.refl _) List.Pairwise.nil a
  | cons l L =>
    have e1 : intsOf ((l :: L).map rowD) = none := rfl
    simp only [e1, rowsOf_map]
    exact ⟨⟨d, h1, h2⟩, hC⟩
theorem sortM_ints {p : P} {δ : Sl} {μ : Mu} {C : P → Mu → Prop} {ns : List Int} (hl : lget δ μ p = some (ns.map D.int)) (hC : ∀ ns' : List Int, ns'.Perm ns → ns'.Pairwise (· ≤ ·) → ∀ a, C (.own a (ns'.map D.int)) μ) : sortM p δ μ C := by
  unfold sortM
  rw [hl]
  simp only [intsOf_map]
  exact hC
/-! ### == of lists -/
theorem eqM_pd {p q : P} {neg : Bool} {x y : D} {δ : Sl} {μ : Mu} {C : P → Mu → Prop} (hp : pd δ μ p = some x) (hq : pd δ μ q = some y) (hs : ∀ s, p ≠ .val (.str s)) : eqM neg p q δ μ C = ((x.ok 64 = true ∧ y.ok 64 = true) ∧ C (.val (.bl (if neg then !(D.eqb x y) else D.eqb x y))) μ) := by
  unfold eqM
  split
  · rename_i s t
    exact absurd rfl (hs s)
  · simp only [hp, hq]
/-! ### slices at one end -/
theorem cut_pre {α : Type} {xs : List α} {x : Int} {k : Nat} (hx : x = k) : cutL xs none (some x) = xs.take k := by
  subst hx
  unfold cutL
  rw [HT.sIx_none, HT.sIx_nat, List.drop_zero, Nat.sub_zero]
  by_cases h : k ≤ xs.length
  · rw [Nat.min_eq_left h]
  · rw [Nat.min_eq_right (by omega), List.take_of_length_le (by omega), List.take_of_length_le (by omega)]
theorem cut_post {α : Type} {xs : List α} {x : Int} {k : Nat} (hx : x = k) : cutL xs (some x) none = xs.drop k := by
  subst hx
  unfold cutL
  rw [HT.sIx_none, HT.sIx_nat]
  by_cases h : k ≤ xs.length
  · rw [Nat.min_eq_left h, List.take_of_length_le (by rw [List.length_drop]; omega)]
  · rw [Nat.min_eq_right (by omega), List.drop_eq_nil_of_le (by omega), List.drop_eq_nil_of_le (by omega)]
    simp
theorem cut_last {α : Type} {xs : List α} : cutL xs none (some (-1)) = xs.dropLast := by
  unfold cutL
  rw [HT.sIx_none, List.drop_zero, Nat.sub_zero]
  have e : HT.sIx xs.length xs.length (some (-1)) = xs.length - 1 := by
    unfold HT.sIx
    simp only [show ((-1 : Int) < 0) = True by decide, if_true]
    omega
  rw [e, List.dropLast_eq_take]
theorem at_last {α : Type} {xs : List α} {v : α} (h : xs.getLast? = some v) : atI xs (-1) = some v := by
  obtain ⟨ys, rfl⟩ := List.getLast?_eq_some_iff.mp h
  exact atI_last ys v
end NT

/-! NT: isinstance, any, all, max and min of a list, chains, enumerate. -/
namespace NT
open PySem PySem.Spec PyProof.Rows L2

/-! ### isinstance -/
def tyN (δ : Sl) (μ : Mu) : P → Option String
  | .val .non => some "NoneType"
  | .val (.bl _) => some "bool"
  | .val (.int _) => some "int"
  | .val (.str _) => some "str"
  | .val (.tup _) => some "tuple"
  | .val (.ref n) => match μ[n]? with
    | some (.lst _) => some "list"
    | some (.dic _) => some "dict"
    | some (.dit _) => some "dict"
    | some (.lkd _) => some "dict"
    | _ => none
  | p => match lget δ μ p with
    | some _ => some "list"
    | none => none
theorem rd_ty {K : PySem.W.Frag} {H : Hp} {a : Addr} {xs : List V} (h : Rd H a (.lst xs)) : TyX K H (.ref a) (.type "list") := by
  rcases h with h | ⟨o, h⟩
  · exact .base (.lst h)
  · exact .base (.frz h)
theorem sqF_ty {K : PySem.W.Frag} {H : Hp} {a : Addr} {xs : List V} (h : SqF K H a xs) : TyX K H (.ref a) (.type "list") := by
  rcases h with ⟨o, h⟩ | ⟨o, its, n, h1, h2, _⟩
  · exact .base (.frz h)
  · exact .kList h1 h2
theorem tyN_ok {K : PySem.W.Frag} {ρ : List Addr} {μ : Mu} {δ : Sl} {σ : L2.St} {H : Hp} {p : P} {x : V} {t : String} (ho : Hold K ρ μ δ σ H) (r : PR K ρ H p x) (e : tyN δ μ p = some t) : TyX K H x (.type t) := by
  have list : ∀ ds, lgetR δ μ p = some ds → TyX K H x (.type "list") := fun ds q => by
    obtain ⟨a, xs, rfl, h, _⟩ := lgetR_ok ho r q
    exact rd_ty h
  cases p with
  | val d =>
    cases d with
    | non => cases e; rw [pr_non r]; exact .base .non
    | bl b => cases e; rw [pr_bl r]; exact .base (.bl b)
    | int i => cases e; rw [pr_int r]; exact .base (.int i)
    | str s => cases e; rw [pr_str r]; exact .base (.str s)
    | tup ds =>
      cases e
      obtain ⟨a, xs, rfl, h, _⟩ := pr_tup r
      rcases h with h | ⟨o, its, n, h1, h2, _⟩
      · exact .base (.tup h)
      · exact .kTuple h1 h2
    | lst ds => cases e; exact list ds rfl
    | kls ds =>
      cases e
      simp only [PR, Rep] at r
      obtain ⟨a, xs, rfl, h, _⟩ := r
      exact sqF_ty h
    | ref n =>
      simp only [PR, Rep] at r
      obtain ⟨a, rfl, h2⟩ := r
      simp only [tyN] at e
      split at e
      · rename_i ds q
        cases e
        obtain ⟨b, h3, xs, h4, _⟩ := ho.sm.obj n _ q
        rw [h2] at h3
        cases h3
        exact .base (.lst h4)
      · rename_i ds q
        cases e
        obtain ⟨b, h3, xs, h4, _⟩ := ho.sm.obj n _ q
        rw [h2] at h3
        cases h3
        exact .base (.dK h4)
      · rename_i ds q
        cases e
        obtain ⟨b, h3, xs, h4, _⟩ := ho.sm.obj n _ q
        rw [h2] at h3
        cases h3
        exact .base (.dT h4)
      · rename_i ds q
        cases e
        obtain ⟨b, h3, o, xs, h4, _⟩ := ho.sm.obj n _ q
        rw [h2] at h3
        cases h3
        exact .fDict h4
      · cases e
  | own a ds => cases e; exact list ds rfl
  | bor a pl =>
    simp only [tyN] at e
    split at e
    · rename_i ds q
      cases e
      exact list ds q
    · cases e
def isiM (T : String) : M1 := fun p δ μ C => match tyN δ μ p with
  | some t => (match kitB t T with
    | some b => C (.val (.bl b)) μ
    | none => False)
  | none => False
theorem e_isi {X : Cx} {W : WX} {a : Expr} {fa : FE} {p p2 pos : Pos} {T : Str} {Ts : String} (hm : X.mg "isinstance" = none) (hmT : X.mg T = none) (hT : bootBuiltins T = some (.type Ts)) (ha : EF X W a fa) (hg : Gl X "isinstance" := by rfl) (hgT : Gl X T := by rfl)
    (hn : T ≠ "__name__" := by decide) (hd : (T == ("__debug__" : Str)) = false := by decide)
    (he : starEach [a, .Name T p2] X.env = (false, eval a X.env) :: starEach [.Name T p2] X.env := by rfl) (he2 : starEach [.Name T p2] X.env = (false, eval (.Name T p2) X.env) :: starEach [] X.env := by rfl) (hpl : (backTo pos (starEach [.Name T p2] X.env)).any (·.1) = false := by rfl) :
    EF X W (.Call (.Name "isinstance" p) [a, .Name T p2] [] pos) (eOp1 (isiM Ts) fa) :=
  pe_imp (pe_callB call_isi hg hm (by decide +kernel) (pa_cons ha (pa_cons (pe_bltn (v := .ty Ts) hgT hmT hT rfl hn hd) pa_nil he2) he) (by decide) (by decide) he hpl) fun σ H Q ⟨ρ, μ, δ, C, E, ho, c, hC, hX⟩ =>
  ⟨ρ, μ, δ, _, E, ho, c, fun q μ1 c1 ρ1 H1 v1 e1 r1 => by
    have ho1 := ho.after e1
    unfold isiM at c1
    split at c1
    · rename_i t ht
      split at c1
      · rename_i b hb
        exact ⟨v1, .ty Ts, .type t, .type Ts, b, rfl, .ty Ts, tyN_ok ho1 r1 ht, kit_ty hb, hC _ μ1 c1 ρ1 H1 _ e1.drop (by simp only [PR, Rep])⟩
      · exact c1.elim
    · exact c1.elim, hX⟩
/-! ### any, all; max, min of ints -/
def blsOf : List D → Option (List Bool)
  | [] => some []
  | .bl b :: r => (blsOf r).map (b :: ·)
  | _ => none
theorem blsOf_map : ∀ bs : List Bool, blsOf (bs.map D.bl) = some bs
  | [] => rfl
  | b :: bs => by simp only [List.map_cons, blsOf, blsOf_map bs, Option.map_some]
theorem blsOf_ok {K : PySem.W.Frag} {ρ : List Addr} {H : Hp} : ∀ {ds : List D} {vs : List V} {bs : List Bool}, Reps K ρ H ds vs → blsOf ds = some bs → vs = bs.map V.bl
  | [], _, _, h, e => by
    simp only [Reps] at h
    subst h
    simp only [blsOf, Option.some.injEq] at e
    subst e
    rfl
  | d :: ds, _, bs, h, e => by
    simp only [Reps] at h
    obtain ⟨v, r, rfl, h2, h3⟩ := h
    cases d with
    | bl b =>
      simp only [blsOf] at e
      cases q : blsOf ds with
      | none => rw [q] at e; cases e
      | some ms =>
        rw [q] at e
        simp only [Option.map_some, Option.some.injEq] at e
        subst e
        simp only [Rep] at h2
        rw [h2, blsOf_ok h3 q]
        rfl
    | _ => simp [blsOf] at e
def blsM (g : List Bool → Bool) : M1 := fun p δ μ C => match lget δ μ p with
  | some ds => (match blsOf ds with | some bs => C (.val (.bl (g bs))) μ | none => False)
  | none => False
theorem br_bls {K : PySem.W.Frag} {g : List Bool → Bool} : Br1 K (fun x H Q => ∃ (a : Addr) (bs : List Bool), [x] = [V.ref a] ∧ SqL K H a (bs.map V.bl) ∧ Q (.bl (g bs)) H) (blsM g) := by
  intro ρ μ δ σ H p x C Q ho rp ap c hC
  unfold blsM at c
  split at c
  · rename_i ds h
    split at c
    · rename_i bs e
      obtain ⟨a, xs, rfl, e2, e3⟩ := lget_ok ho rp h
      rw [blsOf_ok e3 e] at e2
      exact ⟨a, bs, rfl, e2, hC _ _ c ρ H _ (ho.val fun _ => rfl) (by simp only [PR, Rep])⟩
    · exact c.elim
  · exact c.elim
/-- the greatest, the least -/
def maxLM : M1 := fun p δ μ C => match lget δ μ p with
  | some ds => (match intsOf ds with | some ns => 0 < ns.length ∧ ∀ m, m ∈ ns → (∀ y ∈ ns, y ≤ m) → C (.val (.int m)) μ | none => False)
  | none => False
def minLM : M1 := fun p δ μ C => match lget δ μ p with
  | some ds => (match intsOf ds with | some ns => 0 < ns.length ∧ ∀ m, m ∈ ns → (∀ y ∈ ns, m ≤ y) → C (.val (.int m)) μ | none => False)
  | none => False
theorem br_maxL {K : PySem.W.Frag} : Br1 K (fun x H Q => rMax K [x] H Q) maxLM := by
  intro ρ μ δ σ H p x C Q ho rp ap c hC
  unfold maxLM at c
  split at c
  · rename_i ds h
    split at c
    · rename_i ns e
      obtain ⟨a, xs, rfl, e2, e3⟩ := lget_ok ho rp h
      rw [intsOf_ok e3 e] at e2
      exact ⟨a, ns, rfl, e2, c.1, fun m h1 h2 => hC _ _ (c.2 m h1 h2) ρ H _ (ho.val fun _ => rfl) (by simp only [PR, Rep])⟩
    · exact c.elim
  · exact c.elim
theorem br_minL {K : PySem.W.Frag} : Br1 K (fun x H Q => rMin K [x] H Q) minLM := by
  intro ρ μ δ σ H p x C Q ho rp ap c hC
  unfold minLM at c
  split at c
  · rename_i ds h
    split at c
    · rename_i ns e
      obtain ⟨a, xs, rfl, e2, e3⟩ := lget_ok ho rp h
      rw [intsOf_ok e3 e] at e2
      exact ⟨a, ns, rfl, e2, c.1, fun m h1 h2 => hC _ _ (c.2 m h1 h2) ρ H _ (ho.val fun _ => rfl) (by simp only [PR, Rep])⟩
    · exact c.elim
  · exact c.elim
section
variable {X : Cx} {W : WX} {a b c tg : Expr} {fa fb fc : FE} {p pos tpos : Pos}
theorem e_any (hc : X.calm = true) (hm : X.mg "any" = none) (ha : EF X W a fa) (hg : Gl X "any" := by rfl) (he : starEach [a] X.env = (false, eval a X.env) :: starEach [] X.env := by rfl) : EF X W (.Call (.Name "any" p) [a] [] pos) (eOp1 (blsM fun bs => bs.any id) fa) :=
  e_callB (cr_any hc) (br_bls (g := fun bs => bs.any id)) hm (by decide +kernel) ha hg (by decide) (by decide) he
theorem e_all (hc : X.calm = true) (hm : X.mg "all" = none) (ha : EF X W a fa) (hg : Gl X "all" := by rfl) (he : starEach [a] X.env = (false, eval a X.env) :: starEach [] X.env := by rfl) : EF X W (.Call (.Name "all" p) [a] [] pos) (eOp1 (blsM fun bs => bs.all id) fa) :=
  e_callB (cr_all hc) (br_bls (g := fun bs => bs.all id)) hm (by decide +kernel) ha hg (by decide) (by decide) he
theorem e_maxL (hc : X.calm = true) (hm : X.mg "max" = none) (ha : EF X W a fa) (hg : Gl X "max" := by rfl) (he : starEach [a] X.env = (false, eval a X.env) :: starEach [] X.env := by rfl) : EF X W (.Call (.Name "max" p) [a] [] pos) (eOp1 maxLM fa) :=
  e_callB (cr_max hc) br_maxL hm (by decide +kernel) ha hg (by decide) (by decide) he
theorem e_minL (hc : X.calm = true) (hm : X.mg "min" = none) (ha : EF X W a fa) (hg : Gl X "min" := by rfl) (he : starEach [a] X.env = (false, eval a X.env) :: starEach [] X.env := by rfl) : EF X W (.Call (.Name "min" p) [a] [] pos) (eOp1 minLM fa) :=
  e_callB (cr_min hc) br_minL hm (by decide +kernel) ha hg (by decide) (by decide) he
/-! ### a op b op c -/
def eChain (m m' : M2) (a b c : FE) : FE := fun δ μ C E => a δ μ (fun p μ1 => b δ μ1 (fun q μ2 => m p q δ μ2 (fun z μ3 => match z, q with
  | .val (.bl k), .val d => (if k = true then c δ μ3 (fun w μ4 => m' (.val d) w δ μ4 C) E else C (.val (.bl false)) μ3)
  | _, _ => False)) E) E
theorem chain_lift {K : PySem.W.Frag} {r r' : R2} {m m' : M2} (br : Br2 K r m) (br' : Br2 K r' m') {σ : L2.St} {H : Hp} {Q : VK} (h : liftE K W (eChain m m' fa fb fc) σ H Q) : tChain r r' (liftE K W fa) (liftE K W fb) (liftE K W fc) σ H Q := by
  obtain ⟨ρ, μ, δ, C, E, ho, c, hC, hX⟩ := h
  refine ⟨ρ, μ, δ, _, E, ho, c, fun p μ1 c1 ρ1 H1 v1 e1 r1 => ?_, hX⟩
  have ho1 := ho.after e1
  refine ⟨ρ1, μ1, δ, _, E, ho1, c1, fun q μ2 c2 ρ2 H2 v2 e2 r2 => ?_, hX.after e1⟩
  obtain ⟨r1', ap⟩ := e1.wait r1 e2
  have ho2 := ho1.after e2
  have X2 := (hX.after e1).after e2
  refine br ρ2 μ2 δ σ H2 p q v1 v2 _ _ ho2 r1' r2 ap c2 fun z μ3 c3 ρ3 H3 v3 e3 r3 => ?_
  split at c3
  · rename_i k d
    refine ⟨k, pr_bl r3, ?_⟩
    have ho3 := ho2.after e3
    have e123 := (e1.transM e2).transM e3
    cases k with
    | false =>
      simp only [Bool.false_eq_true, if_false] at c3 ⊢
      exact hC _ μ3 c3 ρ3 H3 _ e123.drop (by simp only [PR, Rep])
    | true =>
      simp only [if_true] at c3 ⊢
      have rd : PR K ρ3 H3 (.val d) v2 := Rep.stay (e3.stayM ho2.sm) e3.ext d v2 r2
      refine ⟨ρ3, μ3, δ, _, E, ho3, c3, fun w μ4 c4 ρ4 H4 v4 e4 r4 => ?_, X2.after e3⟩
      have rd4 : PR K ρ4 H4 (.val d) v2 := Rep.stay (e4.stayM ho3.sm) e4.ext d v2 rd
      exact br' ρ4 μ4 δ σ H4 _ w v2 v4 C Q (ho3.after e4) rd4 r4 (fun x => by have := e4.one x; have z : footP (.val d) x = 0 := rfl; omega) c4 fun p' μ' c5 ρ5 H5 v5 e5 r5 => hC p' μ' c5 ρ5 H5 v5 ((e123.transM e4).transM e5) r5
  · exact c3.elim
theorem e_chain {op op' : CmpOp} {r r' : R2} {m m' : M2} (h1 : OpR X (compareOp op) r) (b1 : Br2 X.K r m) (h2 : OpR X (compareOp op') r') (b2 : Br2 X.K r' m') (ha : EF X W a fa) (hb : EF X W b fb) (hc : EF X W c fc)
    (hm : lastMarks [op, op'] [b, c] = false := by with_unfolding_all rfl) : EF X W (.Compare a [op, op'] [b, c] pos) (eChain m m' fa fb fc) := pe_imp (pe_chain h1 h2 ha hb hc hm) fun _ _ _ h => chain_lift b1 b2 h
theorem t_chain {op op' : CmpOp} {r r' : R2} {m m' : M2} (h1 : OpR X (compareOp op) r) (b1 : Br2 X.K r m) (h2 : OpR X (compareOp op') r') (b2 : Br2 X.K r' m') (ha : EF X W a fa) (hb : EF X W b fb) (hc : EF X W c fc)
    (hm : lastMarks [op, op'] [b, c] = false := by with_unfolding_all rfl) : TF X W (.Compare a [op, op'] [b, c] pos) (tBool (eChain m m' fa fb fc)) :=
  pt_imp (pt_chain h1 h2 ha hb hc hm) fun _ _ _ h => chain_lift (fa := fa) (fb := fb) (fc := fc) b1 b2 (lift_bool h)
/-! ### for i, x in enumerate(xs) -/
theorem i_enum {elts : List Expr} {kk : Nat} (hm : X.mg "enumerate" = none) (ha : EF X W a fa) (hg : Gl X "enumerate" := by rfl) (hs : starEach [a] X.env = (false, eval a X.env) :: starEach [] X.env := by rfl) : IF X W (.Tuple elts kk tpos) (.Call (.Name "enumerate" p) [a] [] pos) (iEnumD fa) :=
  pi_imp (pi_enum hg hm (pa_cons (e_frzB ha) pa_nil hs) hs) fun σ H R ⟨ρ, μ, δ, C, E, ho, c, hC, hX⟩ =>
  ⟨ρ, μ, δ, fun q μ1 => livOf δ μ1 q ∧ C (enuD (livD q)) μ1, E, ho, c, fun q μ1 c1 ρ1 H1 v1 e1 r1 => by
    obtain ⟨⟨no, hl⟩, c1⟩ := c1
    obtain ⟨ds, hl⟩ := Option.isSome_iff_exists.mp hl
    obtain ⟨b, xs, rfl, e2, e3⟩ := lget_ok (ho.after e1) r1 hl
    exact ⟨b, xs, rfl, e2, hC _ μ1 c1 ρ1 H1 _ e1.drop (link_enu (np_of no) r1)⟩, hX⟩
end
end NT

/-! NT: sorted(..) of pairs (n, row) where the same n has the same row. -/
namespace NT
open PySem PySem.Spec PyProof.Rows L2 Srt SrtO
open Classical in
/-- what stands to v -/
noncomputable def theOf {α : Type} [Inhabited α] (R : Value → α → Prop) (v : Value) : α := if h : ∃ x, R v x then Classical.choose h else default
theorem theOf_eq {α : Type} [Inhabited α] {R : Value → α → Prop} (F : ∀ v x y, R v x → R v y → x = y) {v : Value} {x : α} (h : R v x) : theOf R v = x := by
  unfold theOf
  rw [dif_pos ⟨x, h⟩]
  exact F v _ _ (Classical.choose_spec (⟨x, h⟩ : ∃ x, R v x)) h
theorem read_all {α : Type} [Inhabited α] {R : Value → α → Prop} (F : ∀ v x y, R v x → R v y → x = y) : ∀ {xs : List V} {us : List Value} {ks : List α}, Vals xs us → xs.length = ks.length → (∀ p ∈ xs.zip ks, ∃ t, p.1 = V.ref t ∧ R (.ref t) p.2) →
    xs.zip ks = us.map (fun u => (backV u, theOf R u)) ∧ ∀ u ∈ us, ∃ k, (backV u, k) ∈ xs.zip ks ∧ R u k ∧ theOf R u = k
  | _, _, [], .nil, _, _ => ⟨rfl, fun u hu => absurd hu (by simp)⟩
  | _, _, [], .cons _ _, e, _ => by simp at e
  | _, _, _ :: _, .nil, e, _ => by simp at e
  | x :: xs, u :: us, k :: ks, .cons r t, e, h0 => by
    obtain ⟨a, e1, e2⟩ := h0 (x, k) List.mem_cons_self
    have e1' : x = V.ref a := e1
    subst e1'
    obtain rfl : u = Value.ref a := r
    obtain ⟨q1, q2⟩ := read_all F t (by simpa using e) fun p hp => h0 p (List.mem_cons_of_mem _ hp)
    have ke := theOf_eq F e2
    refine ⟨?_, fun u hu => ?_⟩
    · rw [List.zip_cons_cons, List.map_cons, ← q1, ke]
      rfl
    · rcases List.mem_cons.mp hu with z | z
      · rw [z]
        exact ⟨k, List.mem_cons_self, e2, ke⟩
      · obtain ⟨k', z1, z2, z3⟩ := q2 u z
        exact ⟨k', List.mem_cons_of_mem _ z1, z2, z3⟩
def PairTup (h : Heap) (v : Value) (x : Int × List Int) : Prop := ∃ (a b : Addr) (t : Tok), v = .ref a ∧ IsTup h a #[.int x.1 t, .ref b] ∧ TS.TupInts h (.ref b) x.2
theorem isTup_one {h : Heap} {a : Addr} {xs ys : Array Value} (h1 : IsTup h a xs) (h2 : IsTup h a ys) : xs = ys := by
  obtain ⟨o, e, _, n, d⟩ := h1
  obtain ⟨o', e', _, n', d'⟩ := h2
  rw [e] at e'
  cases e'
  rw [d] at d'
  cases d'
  rfl
theorem PairTup.one {h : Heap} {v : Value} {x y : Int × List Int} (h1 : PairTup h v x) (h2 : PairTup h v y) : x = y := by
  obtain ⟨a, b, t, rfl, e1, e2⟩ := h1
  obtain ⟨a', b', t', e3, e4, e5⟩ := h2
  cases e3
  have z := isTup_one e1 e4
  simp only [Array.mk.injEq, List.cons.injEq, Value.int.injEq, Value.ref.injEq, and_true] at z
  obtain ⟨⟨z1, _⟩, z2⟩ := z
  subst z2
  have := e2.ints.symm.trans e5.ints
  exact Prod.ext z1 this
theorem PairTup.keeps {h h' : Heap} {v : Value} {x : Int × List Int} (p : PairTup h v x) (k : ∀ b o, h.get? b = some o → o.cls = .type "tuple" → h'.get? b = some o) : PairTup h' v x := by
  obtain ⟨a, b, t, e, ⟨o, ho, hc, r⟩, e2⟩ := p
  exact ⟨a, b, t, e, ⟨o, k _ _ ho hc, hc, r⟩, e2.keeps k⟩
section
variable {prog : Program} {w : World} {A : Around} {E : Value → Shared → Prop} {s : Shared} {Q : Bool → Shared → Prop}
theorem items_ints {xs : List Value} {ns : List Int} (h : IntsAre xs ns) : ItemsAre (L2.mixKind prog w) (ns.map Sum.inl) xs := by
  induction h with
  | nil => exact .nil
  | cons q t _ ih => exact .cons (L2.mixKind_int prog w _ _) ih
theorem prs_cmp (hu : A.units < cLine) {vs : List Value} {k : Value → Int × List Int} (hk : ∀ v ∈ vs, PairTup s.heap v (k v)) (inj : ∀ v ∈ vs, ∀ u ∈ vs, (k v).1 = (k u).1 → k v = k u) : SrtO.Cmp prog w A s (tuples' true) (fun p => p.1 ∈ vs) (lt2 fun v u => decide ((k v).1 < (k u).1)) := by
  intro p q hm hm'
  have ij := inj _ hm _ hm'
  obtain ⟨a, b, t, e1, ⟨o, ho, hc, n, hdt⟩, i⟩ := hk _ hm
  obtain ⟨a', b', t', e2, ⟨o', ho', hc', n', hdt'⟩, i'⟩ := hk _ hm'
  show wpAny (model prog w) A (keyLt' (tuples' true) p.1 q.1) (fun r s' => s' = s ∧ r = decide ((k p.1).1 < (k q.1).1)) (fun _ _ => False) s
  generalize k p.1 = ns at i ho hdt ij ⊢
  generalize k q.1 = ms at i' ho' hdt' ij ⊢
  rw [e1, e2]
  refine PySem.W.kat_lt ho hdt ho' hdt' ?_
  rw [show decide ((#[Value.int ns.1 t, Value.ref b] : Array Value).size < (#[Value.int ms.1 t', Value.ref b'] : Array Value).size) = false from rfl]
  show PySem.W.KatLex prog w A true false _ [(Value.int ns.1 t, Value.int ms.1 t'), (Value.ref b, Value.ref b')] 0 s
  refine PySem.W.kat_cons (wpAny_eqBool_int ?_)
  by_cases e : ns.1 = ms.1
  · have e' := ij e
    subst e'
    rw [beq_self_eq_true]
    obtain ⟨c, xs, z, ⟨o1, ho1, hc1, n1, hd1⟩, y⟩ := i
    cases z
    obtain ⟨c', xs', z', ⟨o1', ho1', hc1', n1', hd1'⟩, y'⟩ := i'
    cases z'
    refine PySem.W.kat_yes (PySem.W.kat_cons (wpAny_eqBool_tuple hu ⟨o1, _, n1, ho1, hc1, hd1, items_ints (prog := prog) (w := w) y⟩ ⟨o1', _, n1', ho1', hc1', hd1', items_ints (prog := prog) (w := w) y'⟩ ?_))
    rw [show decide (ns.2.map (Sum.inl (β := Str)) = ns.2.map Sum.inl) = true from decide_eq_true rfl]
    refine PySem.W.kat_yes (PySem.W.kat_nil ⟨rfl, ?_⟩)
    simp
  · rw [show (ns.1 == ms.1) = false from beq_eq_false_iff_ne.mpr e]
    exact PySem.W.kat_no (TS.oneLt_ints _ ⟨rfl, rfl⟩)
theorem heads_prs {h : Heap} {k : Value → Int × List Int} : ∀ vs : List Value, (∀ v ∈ vs, PairTup h v (k v)) → ∃ fs, PySem.W.KatTups h vs fs ∧ fs.length = vs.length ∧ ∀ f, f ∈ fs → ∃ n t, f = Value.int n t
  | [], _ => ⟨[], PySem.W.KatTups.nil, rfl, fun f hf => by simp at hf⟩
  | v :: vs, x => by
    obtain ⟨fs, g, hl, hi⟩ := heads_prs vs fun u hu => x u (List.mem_cons_of_mem _ hu)
    obtain ⟨a, b, t, e, ⟨o, ho, hc, n, hdt⟩, i⟩ := x v List.mem_cons_self
    rw [e]
    refine ⟨_ :: fs, PySem.W.KatTups.cons ho hc hdt rfl g, by simp [hl], fun f hf => ?_⟩
    rcases List.mem_cons.mp hf with rfl | hf
    · exact ⟨_, _, rfl⟩
    · exact hi f hf
theorem prs_sortable {a : Addr} {vs : List Value} {k : Value → Int × List Int} (hu : A.units < cLine) (h0 : 0 < vs.length) (hk : ∀ v ∈ vs, PairTup s.heap v (k v)) (inj : ∀ v ∈ vs, ∀ u ∈ vs, (k v).1 = (k u).1 → k v = k u) (ha : ∀ o, s.heap.get? a = some o → o.cls ≠ .type "tuple") :
    SortableO prog w A s a vs fun v u => decide ((k v).1 < (k u).1) := by
  intro h' keep
  have hk' : ∀ v ∈ vs, PairTup h' v (k v) := fun v hm => (hk v hm).keeps fun b o e c => keep b o (fun z => by subst z; exact ha o e c) e
  obtain ⟨fs, h1, h2, h3⟩ := heads_prs vs hk'
  refine ⟨tuples' true, fun Q E hq => ?_, prs_cmp hu hk' inj⟩
  refine PySem.W.kat_kind (T := .type "int") h1 (by omega) (fun f hm => ?_) (by rfl) ?_
  · obtain ⟨x, t, rfl⟩ := h3 f hm
    exact PySem.W.Looks.now
  · rw [show (Value.type "int" != Value.type "tuple") = true by first | decide +kernel | rfl | decide]
    exact hq
end
/-- sorted(xs) of pairs -/
def rSortP (K : PySem.W.Frag) : List V → Hp → VK → Prop := fun vs H Q => ∃ (a : Addr) (xs : List V) (ks : List (Int × List Int)), vs = [V.ref a] ∧ SqL K H a xs ∧ xs.length = ks.length ∧
  (∀ p ∈ xs.zip ks, ∃ t b, p.1 = V.ref t ∧ SqT K H t [.int p.2.1, .ref b] ∧ SqT K H b (p.2.2.map V.int)) ∧ (∀ x ∈ ks, ∀ y ∈ ks, x.1 = y.1 → x = y) ∧
  ∀ (zs : List (V × (Int × List Int))) (p : Addr), zs.Perm (xs.zip ks) → zs.Pairwise (fun x y => x.2.1 ≤ y.2.1) → H p = none → Q (.ref p) (upd H p (.lst (zs.map (·.1))))
section
variable {X : Cx}
theorem cr_sortP (hu : X.A.units + 64 < cLine) : CallR X (.builtin "sorted") (rSortP X.K) := by
  intro pins s σ H vs us Q I r h
  obtain ⟨a, xs, ks, rfl, hs, hl, hx, ij, q⟩ := h
  obtain ⟨its, rv, hi, hz⟩ := I.list hs
  obtain ⟨u, rfl, ru⟩ := vals1 r
  obtain rfl : u = Value.ref a := ru
  have tups : ∀ p ∈ xs.zip ks, ∃ t, p.1 = V.ref t ∧ PairTup s.heap (.ref t) p.2 := fun p hp => by
    obtain ⟨t, b, e1, e2, e3⟩ := hx p hp
    obtain ⟨js, rj, tj, _⟩ := I.tuple e2
    obtain ⟨is, ri, ⟨o, ho, hc, n, hdt⟩, _⟩ := I.tuple e3
    cases rj with
    | cons r1 rj =>
      cases rj with
      | cons r2 rj =>
        cases rj with
        | nil =>
          obtain ⟨tt, rfl⟩ := r1
          cases r2
          exact ⟨t, e1, t, b, tt, rfl, tj, b, is.toArray, rfl, ⟨o, ho, hc, n, hdt⟩, by simpa using ri.ints⟩
  obtain ⟨e1, e2⟩ := refs_back rv fun x m => by
    obtain ⟨k, hk⟩ := zip_left hl x m
    obtain ⟨t, _, e, _⟩ := hx _ hk
    exact ⟨t, e⟩
  obtain ⟨z1, z2⟩ := read_all (R := PairTup s.heap) (fun v x y h1 h2 => h1.one h2) rv hl tups
  have hk : ∀ v ∈ its, PairTup s.heap v (theOf (PairTup s.heap) v) := fun v hv => by
    obtain ⟨k, m, e, f⟩ := z2 v hv
    rw [f]
    exact e
  have inj : ∀ v ∈ its, ∀ u ∈ its, (theOf (PairTup s.heap) v).1 = (theOf (PairTup s.heap) u).1 → theOf (PairTup s.heap) v = theOf (PairTup s.heap) u := fun v hv u hu e => by
    obtain ⟨k, m, _, f⟩ := z2 v hv
    obtain ⟨k', m', _, f'⟩ := z2 u hu
    rw [f, f'] at e ⊢
    exact ij _ (List.of_mem_zip m).2 _ (List.of_mem_zip m').2 e
  refine sorted_ord (ltv := fun v u => decide ((theOf (PairTup s.heap) v).1 < (theOf (PairTup s.heap) u).1)) ⟨fun x y h => by simp only [decide_eq_true_eq, decide_eq_false_iff_not] at h ⊢; omega, fun x y z h1 h2 => by simp only [decide_eq_false_iff_not] at h1 h2 ⊢; omega⟩ hi.isList (by rw [← rv.length]; exact hz) (fun h2 h₁ b hb keep => ?_) fun out hs hb => ?_
  · refine prs_sortable (s := { s with heap := h₁ }) (by show X.A.units + 1 + 1 < cLine; omega) (by omega) (fun v hm => (hk v hm).keeps fun b o e _ => (keep b o e).2) inj fun o e => ?_
    have e' : some o = some (seqObj "list" its.toArray 0) := e.symm.trans hb
    cases e'
    intro c
    exact absurd (Value.type.inj c) (by decide)
  · have h3 : ∀ u ∈ out, ∃ a, u = Value.ref a := fun u hu => e2 u (hb.perm.mem_iff.mp hu)
    obtain ⟨n, hn⟩ := sortedAll_at s.heap its out.toArray
    have hd' : s.heap.objs.size ≤ s.heap.objs.size + 1 := Nat.le_succ _
    have key := q (out.map fun u => (backV u, theOf (PairTup s.heap) u)) (s.heap.objs.size + 1) (by rw [z1]; exact hb.perm.map _) (List.pairwise_map.mpr (hs.imp fun {x y} h => by simp only [decide_eq_false_iff_not] at h; show (theOf (PairTup s.heap) x).1 ≤ (theOf (PairTup s.heap) y).1; omega)) (I.hok.fresh hd')
    rw [List.map_map] at key
    refine ⟨.ref (s.heap.objs.size + 1), upd H (s.heap.objs.size + 1) (.lst (out.map backV)), I.laid (t' := s.toks) (fun b o e => sortedAll_old e) hd' ⟨?_, out, n, vals_back h3, hn⟩, rfl, key⟩
    rw [List.length_map, hb.len, ← rv.length]
    exact hz
end
/-! ### by trees -/
def prD (x : Int × List Int) : D := .tup [.int x.1, rowD x.2]
/-- sorted(xs), xs pairs of an int and a row of ints -/
def sortPM : M1 := fun p δ μ C => match lget δ μ p with
  | some ds => ∃ L : List (Int × List Int), ds = L.map prD ∧ (∀ x ∈ L, ∀ y ∈ L, x.1 = y.1 → x = y) ∧ ∀ L' : List (Int × List Int), L'.Perm L → L'.Pairwise (fun x y => x.1 ≤ y.1) → ∀ a, C (.own a (L'.map prD)) μ
  | none => False
theorem reps_zsP {K : PySem.W.Frag} {ρ : List Addr} {H : Hp} : ∀ {zs : List (V × (Int × List Int))}, (∀ z ∈ zs, Rep K ρ H (prD z.2) z.1) → Reps K ρ H ((zs.map (·.2)).map prD) (zs.map (·.1))
  | [], _ => reps_nil
  | z :: zs, h => reps_cons (h z List.mem_cons_self) (reps_zsP fun y hy => h y (List.mem_cons_of_mem _ hy))
theorem reps_zipP {K : PySem.W.Frag} {ρ : List Addr} {H : Hp} : ∀ {L : List (Int × List Int)} {xs : List V}, Reps K ρ H (L.map prD) xs → xs.length = L.length ∧ ∀ z ∈ xs.zip L, Rep K ρ H (prD z.2) z.1
  | [], _, h => by
    simp only [List.map_nil, Reps] at h
    subst h
    exact ⟨rfl, fun z hz => by simp at hz⟩
  | l :: L, _, h => by
    simp only [List.map_cons, Reps] at h
    obtain ⟨v, r, rfl, h1, h2⟩ := h
    obtain ⟨e1, e2⟩ := reps_zipP h2
    refine ⟨by simp [e1], fun z hz => ?_⟩
    rw [List.zip_cons_cons] at hz
    rcases List.mem_cons.mp hz with q | q
    · rw [q]; exact h1
    · exact e2 z q
theorem br_sortP {K : PySem.W.Frag} : Br1 K (fun x H Q => rSortP K [x] H Q) sortPM := by
  intro ρ μ δ σ H p x C Q ho rp ap c hC
  unfold sortPM at c
  split at c
  · rename_i ds hl
    obtain ⟨a, xs, rfl, e2, e3⟩ := lget_ok ho rp hl
    obtain ⟨L, rfl, ij, c⟩ := c
    obtain ⟨len, zr⟩ := reps_zipP e3
    refine ⟨a, xs, L, rfl, e2, len, fun z hz => ?_, ij, fun zs q h1 h2 nq => ?_⟩
    · have r := zr z hz
      simp only [prD, rowD, Rep, Reps] at r
      obtain ⟨t, ys, g1, g2, v1, r1, rfl, rfl, v2, r2, rfl, ⟨b, ws, rfl, g3, g4⟩, rfl⟩ := r
      have g5 := intsOf_ok g4 (intsOf_map _)
      subst g5
      exact ⟨t, b, g1, g2.seq, g3.seq⟩
    · have hm : ∀ z ∈ zs, Rep K ρ H (prD z.2) z.1 := fun z hz => zr z (h1.mem_iff.mp hz)
      obtain ⟨ev, rp'⟩ := ho.newList nq (reps_zsP hm)
      have perm : (zs.map (·.2)).Perm L := by
        have := h1.map (·.2)
        rwa [List.map_snd_zip (by omega)] at this
      exact hC _ _ (c _ perm (List.pairwise_map.mpr h2) q) _ _ _ ev rp'
  · exact c.elim
section
variable {X : Cx} {W : WX} {a : Expr} {fa : FE} {p pos : Pos}
theorem e_sortedP (hu : X.A.units + 64 < cLine) (hm : X.mg "sorted" = none) (ha : EF X W a fa) (hg : Gl X "sorted" := by rfl) (he : starEach [a] X.env = (false, eval a X.env) :: starEach [] X.env := by rfl) : EF X W (.Call (.Name "sorted" p) [a] [] pos) (eOp1 sortPM fa) :=
  e_callB (cr_sortP hu) br_sortP hm (by decide +kernel) ha hg (by decide) (by decide) he
end
end NT

/-! NT: a name that takes a comprehension's list, never written again. -/
namespace NT
open PySem PySem.Spec PyProof.Rows L2
theorem ps_frzS {X : Cx} {st : Stmt} {t : TS} (h : PS X st t) : PS X st (fun D σ H => t { D with nx := fun σ' H' => D.nx σ' H' ∨ ∃ a xs, H' a = some (.lst xs) ∧ ∀ o, D.nx σ' (upd H' a (.frz o (.lst xs))) } σ H) := by
  refine ⟨fun pins s σ H D I q => ?_⟩
  refine thn (h.run pins s σ H _ I q) fun f s1 hh => ?_
  cases f with
  | next =>
    obtain ⟨σ', H', I1, q | ⟨a, xs, ha, q⟩⟩ := hh
    · exact ⟨σ', H', I1, q⟩
    · obtain ⟨o, I2⟩ := I1.lock ha trivial
      exact ⟨σ', _, I2, q o⟩
  | brk => exact hh
  | cont => exact hh
  | ret u => exact hh
section
variable {X : Cx} {W : WX} {elt tg iter : Expr} {ifs : List Expr} {scope : Scope} {own : List (Str × Nat)} {pos spos py : Pos} {fi : FI} {fp : FP} {t : FT} {f : FE} {ws : List Nat} {i : Nat} {y : Str}
theorem s_setLcF (hc : X.calm = true) (hN : X.N.Nodup) (hi : IF X W tg iter fi) (ok : BlkOk X.N X.env.scope scope own) (hv : ∀ j ∈ ws, j ∈ own.map (·.2)) (hy : X.N[i]? = some y) (hyl : X.env.scope.names.lookup y = some .local)
    (hsw : swapsWith (.ListComp elt [⟨tg, iter, ifs, 0⟩] scope pos) (some (.Name y py)) spos.line X.env = pure true)
    (hg : ∀ (s : Shared) (H : Hp) (C : Addr) (cl : List (Str × Addr)) (fq : List Addr), PtF (X.blk s H scope (compEnvC scope cl C X.env) fq) tg ws fp) (ht : ∀ (s : Shared) (H : Hp) (C : Addr) (cl : List (Str × Addr)) (fq : List Addr), TSF (X.blk s H scope (compEnvC scope cl C X.env) fq) W0 ifs t)
    (he : ∀ (s : Shared) (H : Hp) (C : Addr) (cl : List (Str × Addr)) (fq : List Addr), EF (X.blk s H scope (compEnvC scope cl C X.env) fq) W0 elt f) (hs : ∀ x, foldedSetIterable iter X.env x = pure x := by intro _; rfl) :
    SF X W (.Assign [.Name y py] (.ListComp elt [⟨tg, iter, ifs, 0⟩] scope pos) spos) (fAsg (eFrz (eLc fi fp t f (own.map (·.2)))) (gNm i)) :=
  ps_imp (ps_frzS (ps_setLc (g := ptT X.K ws fp) (tt := liftT X.K W0 t) (te := liftE X.K W0 (eFrz f)) hc hN hy hyl hsw hi ok (fun s H C cl fq => (hg s H C cl fq).run) ht (fun s H C cl fq => e_frz (he s H C cl fq)) hs)) fun D σ H ⟨ρ, μ, δ, D', ho, c, k⟩ =>
    lc_lift (W := W) hv (hg {} (fun _ => none) 0 [] []).foot ⟨ρ, μ, δ, fun p μ1 => asD p fun d => gNm i (.val d) δ μ1 D'.nx D'.ex, fun x μ1 => D'.ex x δ μ1, ho, c, fun p μ1 c1 ρ1 H1 v e1 r => by
      cases p with
      | val d =>
        have ho1 := ho.after e1
        have eb := ho.evoB e1
        refine .inl (k.nx _ μ1 c1 ρ1 _ H1 (eb.less fun x => ?_) (ho1.ss.put r))
        have := footS_le δ i (.val d) x
        omega
      | own a ds =>
        obtain ⟨rfl, xs, h1, h2⟩ := r
        refine .inr ⟨a, xs, h1, fun o => ?_⟩
        obtain ⟨ev, rp⟩ := frz_evo (o := o) e1 h1 h2
        have ho1 := ho.after ev
        have eb := ho.evoB ev
        refine k.nx _ μ1 c1 ρ1 _ _ (eb.less fun x => ?_) (ho1.ss.put (p := .val (.lst ds)) rp)
        have := footS_le δ i (.val (.lst ds)) x
        have z : F0 x = 0 := rfl
        have z2 : footP (.val (.lst ds)) x = 0 := rfl
        omega
      | bor a pl => exact absurd c1 id, k.xout ho⟩
end
end NT

/-! NT: a tuple times 1, times 0 and less. -/
namespace NT
open PySem PySem.Spec PyProof.Rows L2
theorem tuple_mul1 (l : Addr) (items : Array Value) (n : Nat) (dd : Option Addr) (sl : Array (Option Value)) (u : Tok) :
    Meets (Builtin.«tuple.__mul__» ⟨[.ref l, .int 1 u], []⟩) (fun _ R s => s.heap.get? l = some { cls := .type "tuple", dict := dd, data := .seq items n, slots := sl } ∧
      R (.ok (.ret (Value.ref l))) s) :=
  .of_wp fun prog w A R s h => by
    obtain ⟨hp, g, d, tk, os⟩ := s
    obtain ⟨hl, h⟩ := h
    have f1 := AutoSeq1.idx_int
    wp_walk using wpAny_loadPart' hl
    repeat (first
      | (refine wpAny_ite_false (by decide) ?_; wp_walk using wpAny_loadPart' hl)
      | (refine wpAny_ite_true (by simp) ?_; wp_walk using wpAny_loadPart' hl))
    exact ⟨_, rfl, h⟩
theorem tuple_mul0 (l : Addr) (items : Array Value) (n : Nat) (dd : Option Addr) (sl : Array (Option Value)) (x : Int) (u : Tok) (c0 : (decide (x < -(2 ^ 63)) || decide (x ≥ 2 ^ 63)) = false) (c1 : (items.isEmpty || x == 1) = false) (c2 : (decide (x ≤ 0) || items.isEmpty) = true) :
    Meets (Builtin.«tuple.__mul__» ⟨[.ref l, .int x u], []⟩) (fun _ R s => s.heap.get? l = some { cls := .type "tuple", dict := dd, data := .seq items n, slots := sl } ∧
      R (.ok (.ret (Value.ref s.heap.objs.size))) { s with heap := s.heap.push { cls := Value.type "tuple", data := Data.seq #[] }, toks := s.toks }) :=
  .of_wp fun prog w A R s h => by
    obtain ⟨hp, g, d, tk, os⟩ := s
    obtain ⟨hl, h⟩ := h
    have f1 := AutoSeq1.idx_int
    wp_walk using wpAny_loadPart' hl
    repeat (first
      | (refine wpAny_ite_false (decide_eq_false (by rw [c0]; exact Bool.false_ne_true)) ?_; wp_walk using wpAny_loadPart' hl)
      | (refine wpAny_ite_false (decide_eq_false (by rw [c1]; exact Bool.false_ne_true)) ?_; wp_walk using wpAny_loadPart' hl)
      | (refine wpAny_ite_true (decide_eq_true (by rw [c2])) ?_; wp_walk using wpAny_loadPart' hl))
    exact ⟨_, rfl, h⟩
section
variable {X : Cx}
def rRep1 (K : PySem.W.Frag) : R2 := fun x y H Q => ∃ l xs, x = .ref l ∧ y = .int 1 ∧ SqT K H l xs ∧ Q (.ref l) H
theorem op_rep1 : OpR X (binaryOp .Mult) (rRep1 X.K) := by
  intro pins s σ H x y v u Q I rx ry h
  obtain ⟨l, xs, rfl, rfl, hT, q⟩ := h
  cases rx
  obtain ⟨t, rfl⟩ := ry
  obtain ⟨its, r, ⟨⟨cls, dd, data, sl⟩, ho, hc, n, hd⟩, hs⟩ := I.tuple hT
  simp only at hc hd
  subst hc hd
  refine wpAny_binaryOp_repeat_ref (T := "tuple") (U := "int") (by decide) ⟨_, ho, rfl⟩ (fun s' => typeIs_int s' 1 t) noFill_tuple_mul F.fills_int_mul F.slot_int_rmul repeat_tuple F.slot_int_index.lookup
    (call_meets F.slot_int_rmul (typeIs_int s 1 t) F.entry_int_rmul (F.args_int_rmul_2 _ _) (int_rmul_tuple 1 t l its.toArray n dd sl)
      ⟨ho, rfl, ⟨_, ho, rfl⟩, call_meets F.slot_tuple_mul ⟨_, ho, rfl⟩ F.entry_tuple_mul (F.args_tuple_mul_2 _ _) (tuple_mul1 l its.toArray n dd sl t) ⟨ho, ?_⟩⟩)
  exact ⟨.ref l, H, I, rfl, q⟩
def rRep0 (K : PySem.W.Frag) : R2 := fun x y H Q => ∃ l k xs, x = .ref l ∧ y = .int k ∧ SqT K H l xs ∧ xs ≠ [] ∧ k ≤ 0 ∧ -1000 ≤ k ∧ ∀ p, H p = none → Q (.ref p) (upd H p (.tup []))
theorem op_rep0 : OpR X (binaryOp .Mult) (rRep0 X.K) := by
  intro pins s σ H x y v u Q I rx ry h
  obtain ⟨l, k, xs, rfl, rfl, hT, hne, h1, h2, q⟩ := h
  cases rx
  obtain ⟨t, rfl⟩ := ry
  obtain ⟨its, r, ⟨⟨cls, dd, data, sl⟩, ho, hc, n, hd⟩, hs⟩ := I.tuple hT
  simp only at hc hd
  subst hc hd
  have hle : its.length = xs.length := r.length.symm
  have hn : its ≠ [] := fun e => hne (by
    rw [e] at hle
    exact List.eq_nil_of_length_eq_zero hle.symm)
  have hi : its.toArray.isEmpty = false := by
    cases its with
    | nil => exact absurd rfl hn
    | cons a b => rfl
  have c0 : (decide (k < -(2 ^ 63)) || decide (k ≥ 2 ^ 63)) = false := by
    rw [decide_eq_false (by omega), decide_eq_false (by omega)] <;> rfl
  have c1 : (its.toArray.isEmpty || k == 1) = false := by
    rw [hi, Bool.false_or]
    exact beq_eq_false_iff_ne.mpr (by omega)
  have c2 : (decide (k ≤ 0) || its.toArray.isEmpty) = true := by
    rw [decide_eq_true h1, Bool.true_or]
  refine wpAny_binaryOp_repeat_ref (T := "tuple") (U := "int") (by decide) ⟨_, ho, rfl⟩ (fun s' => typeIs_int s' k t) noFill_tuple_mul F.fills_int_mul F.slot_int_rmul repeat_tuple F.slot_int_index.lookup
    (call_meets F.slot_int_rmul (typeIs_int s k t) F.entry_int_rmul (F.args_int_rmul_2 _ _) (int_rmul_tuple k t l its.toArray n dd sl)
      ⟨ho, rfl, ⟨_, ho, rfl⟩, call_meets F.slot_tuple_mul ⟨_, ho, rfl⟩ F.entry_tuple_mul (F.args_tuple_mul_2 _ _) (tuple_mul0 l its.toArray n dd sl k t c0 c1 c2) ⟨ho, ?_⟩⟩)
  refine ⟨.ref s.heap.objs.size, _, I.laid (t' := s.toks) (o := .tup []) (fun b ob q => Heap.get?_push_of_some _ q) (Nat.le_refl _) ?_, rfl, q _ (I.hok.fresh (Nat.le_refl _))⟩
  exact ⟨Nat.zero_le _, _, .nil, IsTup.new _ _⟩
end
/-- a tuple times an int -/
def mulT : M2 := fun p q _ μ C => match p, q with
  | .val (.tup ds), .val (.int k) => (ds ≠ [] ∧ ds.length ≤ 1000 ∧ -1000 ≤ k ∧ k ≤ 1000) ∧ C (.val (.tup (List.replicate k.toNat ds).flatten)) μ
  | _, _ => False
def rMulT (K : PySem.W.Frag) : R2 := fun x y H Q => rRepT K x y H Q ∨ (rRep1 K x y H Q ∨ rRep0 K x y H Q)
theorem br_mulT {K : PySem.W.Frag} : Br2 K (rMulT K) mulT := by
  intro ρ μ δ σ H p q x y C Q ho rp rq ap c hC
  unfold mulT at c
  split at c
  · rename_i ds k
    obtain ⟨l, xs, rfl, g2u, g3⟩ := pr_tup rp
    have g2 := g2u.seq
    have e := pr_int rq
    have len := reps_len g3
    obtain ⟨⟨c1, c2, c3, c4⟩, c⟩ := c
    have ne : xs ≠ [] := fun z => c1 (by rw [z] at len; exact List.eq_nil_of_length_eq_zero len)
    have new : ∀ p, H p = none → Q (.ref p) (upd H p (.tup (List.replicate k.toNat xs).flatten)) := fun p np => by
      obtain ⟨ev, rp'⟩ := ho.newTup np (reps_rep g3 k.toNat)
      exact hC _ _ c _ _ _ ev rp'
    by_cases k1 : k = 1
    · subst k1
      have z : (List.replicate (1 : Int).toNat ds).flatten = ds := by simp
      rw [z] at c
      exact .inr (.inl ⟨l, xs, rfl, e, g2, hC _ _ c ρ H _ (ho.val fun _ => rfl) rp⟩)
    · by_cases k0 : k ≤ 0
      · have z : (List.replicate k.toNat xs).flatten = [] := by rw [show k.toNat = 0 by omega]; rfl
        rw [z] at new
        exact .inr (.inr ⟨l, k, xs, rfl, e, g2, ne, k0, by omega, new⟩)
      · exact .inl ⟨l, k, xs, rfl, e, g2, ne, by omega, by omega, by omega, new⟩
  · exact c.elim
section
variable {X : Cx} {W : WX} {a b : Expr} {fa fb : FE} {pos : Pos}
theorem e_mulT (ha : EF X W a fa) (hb : EF X W b fb) : EF X W (.BinOp a .Mult b pos) (eOp2 mulT fa fb) := e_bin (op_repT.or (op_rep1.or op_rep0)) br_mulT ha hb
end
theorem mulT_t {δ : Sl} {μ : Mu} {C : P → Mu → Prop} {ds : List D} {k : Int} : mulT (.val (.tup ds)) (.val (.int k)) δ μ C = ((ds ≠ [] ∧ ds.length ≤ 1000 ∧ -1000 ≤ k ∧ k ≤ 1000) ∧ C (.val (.tup (List.replicate k.toNat ds).flatten)) μ) := rfl
end NT

/-! NT: a comprehension whose turns change the store. -/
namespace NT
open PySem PySem.Spec PyProof.Rows L2
section
variable {fp : FP} {t : FT} {f : FE} {vs : List Nat} {C : P → Mu → Prop} {δ : Sl} {μ : Mu}
/-- n turns, each giving one item; I: what stands behind i turns -/
theorem lc_n {it : ItD} (n : Nat) (I : Nat → List D → Mu → Prop) (hn : n ≤ sizeLine) (h0 : I 0 [] μ) (hl : ∀ i acc μ', I i acc μ' → acc.length = i)
    (hs : ∀ i acc μ', i < n → I i acc μ' → ∃ d δ2, it.item i (wipeD δ vs) μ' d ∧ fp (wipeD δ vs) d = some δ2 ∧ t δ2 μ' (fun b μ2 => b = true ∧ f δ2 μ2 (fun p μ3 => asD p fun y => I (i + 1) (acc ++ [y]) μ3) X0) X0)
    (he : ∀ acc μ', I n acc μ' → it.stop n (wipeD δ vs) μ' ∧ ∀ a, C (.own a acc) μ') (mono : ∀ {δ μ' R R'}, (∀ b μ2, R b μ2 → R' b μ2) → t δ μ' R X0 → t δ μ' R' X0) : LcIs it fp t f vs C δ μ := by
  refine ⟨fun i m acc μ' => m = n - i ∧ i ≤ n ∧ I i acc μ', ⟨n, by simp, Nat.zero_le _, h0⟩, fun i m acc μ' ⟨e, hi, iv⟩ => ?_⟩
  subst e
  by_cases lt : i < n
  · obtain ⟨d, δ2, h1, h2, h3⟩ := hs i acc μ' lt iv
    refine .inr ⟨d, δ2, h1, h2, by rw [hl i acc μ' iv]; omega, ?_⟩
    have z : (fun (p : P) (μ3 : Mu) => asD p fun y => ∃ m', m' < n - i ∧ (m' = n - (i + 1) ∧ i + 1 ≤ n ∧ I (i + 1) (acc ++ [y]) μ3)) = fun p μ3 => asD p fun y => I (i + 1) (acc ++ [y]) μ3 := by
      funext p μ3
      congr 1
      funext y
      exact propext ⟨fun ⟨m', _, _, _, h⟩ => h, fun h => ⟨n - (i + 1), by omega, rfl, lt, h⟩⟩
    rw [z]
    exact mono (fun b μ2 ⟨e, q⟩ => by rw [if_pos e]; exact q) h3
  · have e : i = n := by omega
    subst e
    exact .inl (he acc μ' iv)
/-- over a range, no test -/
theorem lc_rngN {lo : Int} {n : Nat} (I : Nat → List D → Mu → Prop) (hn : n ≤ sizeLine) (h0 : I 0 [] μ) (hl : ∀ i acc μ', I i acc μ' → acc.length = i)
    (hs : ∀ i acc μ', i < n → I i acc μ' → ∃ δ2, fp (wipeD δ vs) (.int (lo + (i : Int))) = some δ2 ∧ f δ2 μ' (fun p μ3 => asD p fun y => I (i + 1) (acc ++ [y]) μ3) X0)
    (he : ∀ acc μ', I n acc μ' → ∀ a, C (.own a acc) μ') : LcIs (rngD lo n) fp tYesD f vs C δ μ :=
  lc_n n I hn h0 hl (fun i acc μ' lt iv => let ⟨δ2, h1, h2⟩ := hs i acc μ' lt iv; ⟨_, δ2, ⟨lt, rfl⟩, h1, rfl, h2⟩) (fun acc μ' iv => ⟨Nat.le_refl _, he acc μ' iv⟩) fun h q => h _ _ q
end
end NT

/-! NT: repr of a bool, of None. -/
namespace NT
open PySem PySem.Spec PyProof.Rows L2
def blT (b : Bool) : Str := if b then "True" else "False"
theorem call_reprB {X : Cx} : CallR X (.builtin "repr") (fun xs H Q => ∃ b : Bool, xs = [.bl b] ∧ Q (.str (blT b)) H) := by
  intro pins s σ H xs us Q I r h
  obtain ⟨b, rfl, q⟩ := h
  obtain ⟨u, rfl, ru⟩ := vals1 r
  cases ru
  exact PySem.P.repr_of_bool ⟨.str _, H, I.tok _, ⟨_, rfl⟩, q⟩
theorem call_reprZ {X : Cx} : CallR X (.builtin "repr") (fun xs H Q => xs = [.non] ∧ Q (.str "None") H) := by
  intro pins s σ H xs us Q I r h
  obtain ⟨rfl, q⟩ := h
  obtain ⟨u, rfl, ru⟩ := vals1 r
  cases ru
  exact PySem.P.repr_of_none ⟨.str _, H, I.tok _, ⟨_, rfl⟩, q⟩
def rReprA (K : PySem.W.Frag) : List V → Hp → VK → Prop := fun xs H Q => rRepr K xs H Q ∨ ((∃ b : Bool, xs = [.bl b] ∧ Q (.str (blT b)) H) ∨ (xs = [.non] ∧ Q (.str "None") H))
theorem call_reprA {X : Cx} (hu : X.A.units + 64 < cLine) (hg : X.A.guards = some []) : CallR X (.builtin "repr") (rReprA X.K) := fun pins s σ H vs us Q I r h =>
  h.elim (call_reprN hu hg pins s σ H vs us Q I r) fun h => h.elim (call_reprB pins s σ H vs us Q I r) (call_reprZ pins s σ H vs us Q I r)
def reprA : M1 := fun p δ μ C => match p with
  | .val (.bl b) => C (.val (.str (blT b))) μ
  | .val .non => C (.val (.str "None")) μ
  | p => reprM p δ μ C
theorem br_reprA {K : PySem.W.Frag} : Br1 K (fun x H Q => rReprA K [x] H Q) reprA := by
  intro ρ μ δ σ H p x C Q ho rp ap c hC
  unfold reprA at c
  split at c
  · exact .inr (.inl ⟨_, by rw [pr_bl rp], hC _ _ c ρ H _ (ho.val fun _ => rfl) (by simp only [PR, Rep])⟩)
  · exact .inr (.inr ⟨by rw [pr_non rp], hC _ _ c ρ H _ (ho.val fun _ => rfl) (by simp only [PR, Rep])⟩)
  · exact .inl (br_repr ρ μ δ σ H _ x C Q ho rp ap c hC)
section
variable {X : Cx} {W : WX} {p pos : Pos} {a : Expr} {fa : FE}
theorem e_reprA (hu : X.A.units + 64 < cLine) (gu : X.A.guards = some []) (hm : X.mg "repr" = none) (ha : EF X W a fa) (hg : Gl X "repr" := by rfl) (he : starEach [a] X.env = (false, eval a X.env) :: starEach [] X.env := by rfl) : EF X W (.Call (.Name "repr" p) [a] [] pos) (eOp1 reprA fa) := e_callB (call_reprA hu gu) br_reprA hm (by decide +kernel) ha hg (by decide) (by decide) he
end
/-! ### _law_same(d, d) -/
def bSameA : FS := fRet (eAnd2 (eOp2 (eqM false) (eVar 0) (eVar 1)) (eOp2 (eqM false) (eOp1 reprA (eVar 0)) (eOp1 reprA (eVar 1))))
section
variable {μ : Mu} {C : P → Mu → Prop} {E : CX}
theorem sameA_i {i : Int} (h : i.natAbs.log2 < 1920) (hC : C (.val (.bl true)) μ) : fnDen 2 2 bSameA [.int i, .int i] μ C E := by
  refine ⟨rfl, ?_⟩
  simp only [bSameA, fRet, eAnd2, eOp2, eVar, List.map_cons, List.map_nil, List.cons_append, List.nil_append, List.getElem?_cons_zero, List.getElem?_cons_succ, eqM_i, beq_self_eq_true, Bool.false_eq_true, if_false, if_true, eOp1, reprA, reprM, h, true_and, eqM_s]
  exact hC
theorem sameA_b {b : Bool} (hC : C (.val (.bl true)) μ) : fnDen 2 2 bSameA [.bl b, .bl b] μ C E := by
  refine ⟨rfl, ?_⟩
  simp only [bSameA, fRet, eAnd2, eOp2, eVar, List.map_cons, List.map_nil, List.cons_append, List.nil_append, List.getElem?_cons_zero, List.getElem?_cons_succ, eqM_b, beq_self_eq_true, Bool.false_eq_true, if_false, if_true, eOp1, reprA, true_and, eqM_s]
  exact hC
theorem sameA_n (hC : C (.val (.bl true)) μ) : fnDen 2 2 bSameA [.non, .non] μ C E := by
  refine ⟨rfl, ?_⟩
  simp only [bSameA, fRet, eAnd2, eOp2, eVar, List.map_cons, List.map_nil, List.cons_append, List.nil_append, List.getElem?_cons_zero, List.getElem?_cons_succ, eqM_same (d := .non) rfl, Bool.not_false, beq_self_eq_true, Bool.false_eq_true, if_false, if_true, eOp1, reprA, true_and, eqM_s]
  exact hC
theorem sameA_t {ds : List D} (h1 : (D.tup ds).ok 60 = true) (h2 : (D.tup ds).small = true) (h3 : (D.tup ds).nd ≤ 100000) (hC : C (.val (.bl true)) μ) : fnDen 2 2 bSameA [.tup ds, .tup ds] μ C E := by
  have r := reprOk_small h1 h2 h3
  have o := ok_le 60 _ h1 64 (by decide)
  refine ⟨rfl, ?_⟩
  simp only [bSameA, fRet, eAnd2, eOp2, eVar, List.map_cons, List.map_nil, List.cons_append, List.nil_append, List.getElem?_cons_zero, List.getElem?_cons_succ, eqM_same o, Bool.not_false, if_true, eOp1, reprA, reprM, pd, r, true_and, eqM_s, beq_self_eq_true, Bool.false_eq_true, if_false]
  exact hC
end
end NT

/-! NT: sum of a tuple of ints. -/
namespace NT
open PySem PySem.Spec PyProof.Rows L2
section
variable {prog : Program} {w : World} {A : Around} {E : Value → Shared → Prop} {s : Shared} {l : Addr} {its : List Value} {ns : List Int} {Q : Value → Shared → Prop}
theorem sumT_raw (hh : A.handled = none) (hl : IsTup s.heap l its.toArray) (hi : IntsAre its ns)
    (h : ∀ h' tk t', (∀ b o, s.heap.get? b = some o → h'.get? b = some o) → Q (.int ns.sum t') { s with heap := h', toks := tk }) : wpAny (model prog w) A (call (.builtin "sum") [.ref l]) Q E s := by
  obtain ⟨xs, e⟩ := hi.allInts.items
  have hn : numsOf (intItems xs).toList = ns := by rw [← e]; exact hi.numsOf
  rw [nums_intItems] at hn
  rw [e] at hl
  have hT : s.heap.IsTuple l (intItems xs) := hl
  have hlt : l < s.heap.objs.size := by obtain ⟨_, q, _⟩ := hl; exact Heap.lt_size q
  refine call_sum_walkG (wpAny_pyIter_tuple hT ?_)
  refine ⟨_, [s.heap.objs.size, l], [s.heap.objs.size], _, _, _, numAt xs, rfl, Walks.tuple (A := A.in1) hh _ l (Nat.ne_of_lt hlt) (intItems xs), ⟨⟨_, Heap.get?_push_size _ rfl, rfl, rfl⟩, hT.push _⟩, fun b hb => ?_, (fun _ _ => intItems_at), fun h' tk t' hk => ?_⟩
  · show b < (s.heap.push _).objs.size
    rw [Heap.size_push]
    rcases List.mem_cons.mp hb with rfl | hb
    · exact Nat.lt_succ_self _
    · rcases List.mem_cons.mp hb with rfl | hb
      · exact Nat.lt_succ_of_lt hlt
      · cases hb
  · have this := h h' tk t' fun b o e => by
      refine hk b o (fun hm => ?_) (Heap.get?_push_of_some _ e)
      rcases List.mem_cons.mp hm with e1 | hm
      · exact absurd (e1 ▸ Heap.lt_size e) (Nat.lt_irrefl _)
      · cases hm
    have z : preSum (numAt xs) (intItems xs).size = ns.sum := by
      rw [preSum_eq, List.take_of_length_le (by simp [intItems]), hn]
    rw [z]
    exact this
end
def rSumT (K : PySem.W.Frag) : List V → Hp → VK → Prop := fun vs H Q => ∃ (a : Addr) (ns : List Int), vs = [V.ref a] ∧ SqT K H a (ns.map V.int) ∧ Q (.int ns.sum) H
theorem cr_sumT {X : Cx} (hc : X.calm = true) : CallR X (.builtin "sum") (rSumT X.K) := by
  intro pins s σ H vs us Q I r h
  obtain ⟨a, ns, rfl, hs, q⟩ := h
  obtain ⟨its, rv, hl, _⟩ := I.tuple hs
  rw [Vals.ref1 r]
  exact sumT_raw (I.ok.hd hc) hl rv.ints fun h' tk t' hk => ⟨.int _, H, I.kept hk, ⟨_, rfl⟩, q⟩
def sumA : M1 := fun p δ μ C => match p with
  | .val (.tup ds) => (match intsOf ds with | some ns => C (.val (.int ns.sum)) μ | none => False)
  | p => sumM p δ μ C
theorem br_sumA {K : PySem.W.Frag} : Br1 K (fun x H Q => rSum K [x] H Q ∨ rSumT K [x] H Q) sumA := by
  intro ρ μ δ σ H p x C Q ho rp ap c hC
  unfold sumA at c
  split at c
  · rename_i ds
    split at c
    · rename_i ns e
      obtain ⟨l, xs, rfl, g2, g3⟩ := pr_tup rp
      rw [intsOf_ok g3 e] at g2
      exact .inr ⟨l, ns, rfl, g2.seq, hC _ _ c ρ H _ (ho.val fun _ => rfl) (by simp only [PR, Rep])⟩
    · exact c.elim
  · exact .inl (br_sum ρ μ δ σ H _ x C Q ho rp ap c hC)
section
variable {X : Cx} {W : WX} {p pos : Pos} {a : Expr} {fa : FE}
theorem e_sumA (hc : X.calm = true) (hm : X.mg "sum" = none) (ha : EF X W a fa) (hg : Gl X "sum" := by rfl) (he : starEach [a] X.env = (false, eval a X.env) :: starEach [] X.env := by rfl) : EF X W (.Call (.Name "sum" p) [a] [] pos) (eOp1 sumA fa) :=
  e_callB (r := fun vs H Q => rSum X.K vs H Q ∨ rSumT X.K vs H Q) (fun pins s σ H vs us Q I r h => h.elim (cr_sum hc pins s σ H vs us Q I r) (cr_sumT hc pins s σ H vs us Q I r)) br_sumA hm (by decide +kernel) ha hg (by decide) (by decide) he
end
section
variable {δ : Sl} {μ : Mu} {C : P → Mu → Prop}
theorem sumA_t {ds : List D} : sumA (.val (.tup ds)) δ μ C = (match intsOf ds with | some ns => C (.val (.int ns.sum)) μ | none => False) := rfl
theorem sumA_o {a : Addr} {ds : List D} : sumA (.own a ds) δ μ C = (match intsOf ds with | some ns => C (.val (.int ns.sum)) μ | none => False) := rfl
theorem sumA_l {ds : List D} : sumA (.val (.lst ds)) δ μ C = (match intsOf ds with | some ns => C (.val (.int ns.sum)) μ | none => False) := rfl
end
end NT

/-! NT: dicts with ints and texts as keys: displays, d[k], d[k] = v, d.get(k, v). -/
namespace NT
open PySem PySem.Spec PyProof.Rows L2
/-! ### tables of trees -/
def dget (kvs : List (Key × D)) (k : Key) : Option D := (kvs.find? fun kv => decide (kv.1 = k)).map (·.2)
def dput (kvs : List (Key × D)) (k : Key) (d : D) : List (Key × D) :=
  if (kvs.any fun kv => decide (kv.1 = k)) = true then kvs.map (fun kv => if kv.1 = k then (kv.1, d) else kv) else kvs ++ [(k, d)]
def keyD : D → Option Key
  | .int i => some (.inl i)
  | .str s => some (.inr s)
  | _ => none
theorem dget_nil {k : Key} : dget [] k = none := rfl
theorem dget_cons {k j : Key} {d : D} {r : List (Key × D)} : dget ((k, d) :: r) j = if k = j then some d else dget r j := by
  by_cases h : k = j <;> simp [dget, List.find?_cons, h]
theorem dany (k : Key) : ∀ kvs : List (Key × D), (kvs.any fun kv => decide (kv.1 = k)) = (dget kvs k).isSome
  | [] => rfl
  | (j, d) :: r => by
    rw [List.any_cons, dany k r, dget_cons]
    by_cases h : j = k <;> simp [h]
theorem dget_put (k j : Key) (d : D) (kvs : List (Key × D)) : dget (dput kvs k d) j = if j = k then some d else dget kvs j := by
  have m : ∀ l : List (Key × D), dget (l.map fun kv => if kv.1 = k then (kv.1, d) else kv) j = (dget l j).map fun x => if j = k then d else x := fun l => by
    induction l with
    | nil => rfl
    | cons p r ih =>
      obtain ⟨i, e⟩ := p
      rw [List.map_cons]
      by_cases h : i = k
      · rw [if_pos h, dget_cons, dget_cons, ih]
        by_cases g : i = j
        · rw [if_pos g, if_pos g, Option.map_some, if_pos (g.symm.trans h)]
        · rw [if_neg g, if_neg g]
      · rw [if_neg h, dget_cons, dget_cons, ih]
        by_cases g : i = j
        · rw [if_pos g, if_pos g, Option.map_some, if_neg (fun z => h (g.trans z))]
        · rw [if_neg g, if_neg g]
  have a : ∀ l : List (Key × D), dget (l ++ [(k, d)]) j = match dget l j with | some x => some x | none => if k = j then some d else none := fun l => by
    induction l with
    | nil => rw [List.nil_append, dget_cons, dget_nil]
    | cons p r ih =>
      obtain ⟨i, e⟩ := p
      rw [List.cons_append, dget_cons, dget_cons, ih]
      by_cases g : i = j
      · rw [if_pos g, if_pos g]
      · rw [if_neg g, if_neg g]
  unfold dput
  rw [dany]
  cases h : dget kvs k with
  | some x =>
    rw [if_pos (show (some x).isSome = true from rfl), m]
    by_cases g : j = k
    · rw [if_pos g, g, h]
      simp
    · rw [if_neg g]
      cases dget kvs j <;> simp [g]
  | none =>
    rw [if_neg (by simp), a]
    by_cases g : j = k
    · rw [g, h, if_pos rfl]
      first | done | exact if_pos rfl
    · rw [if_neg g]
      cases dget kvs j with
      | some x => rfl
      | none => exact if_neg fun z => g z.symm
theorem dput_hd {k : Key} {c d : D} {r : List (Key × D)} (h : ∀ x ∈ r, x.1 ≠ k) : dput ((k, c) :: r) k d = (k, d) :: r := by
  unfold dput
  rw [if_pos (by simp), List.map_cons, if_pos rfl]
  congr 1
  have : ∀ l : List (Key × D), (∀ x ∈ l, x.1 ≠ k) → (l.map fun kv => if kv.1 = k then (kv.1, d) else kv) = l := fun l => by
    induction l with
    | nil => intro _; rfl
    | cons y l ih =>
      intro q
      rw [List.map_cons, if_neg (q y List.mem_cons_self), ih fun x hx => q x (List.mem_cons_of_mem _ hx)]
  exact this r h
section
variable {K : PySem.W.Frag} {ρ : List Addr} {H : Hp}
theorem kvr_get {k : Key} : ∀ {kvs : List (Key × D)} {vs : List (Key × V)}, KvR K ρ H kvs vs → (∀ d, dget kvs k = some d → ∃ v, valV vs k = some v ∧ Rep K ρ H d v) ∧ (dget kvs k = none → valV vs k = none)
  | [], vs, h => by
    have h' : vs = [] := h
    subst h'
    exact ⟨fun d e => by simp [dget] at e, fun _ => rfl⟩
  | (j, e) :: r, _, h => by
    obtain ⟨v, t, rfl, h2, h3⟩ := h
    obtain ⟨i1, i2⟩ := kvr_get (k := k) h3
    rw [dget_cons]
    by_cases g : j = k
    · rw [if_pos g, valV_pos g]
      exact ⟨fun d z => by cases z; exact ⟨v, rfl, h2⟩, fun z => by cases z⟩
    · rw [if_neg g, valV_neg g]
      exact ⟨i1, i2⟩
theorem kvr_len : ∀ {kvs : List (Key × D)} {vs : List (Key × V)}, KvR K ρ H kvs vs → kvs.length = vs.length
  | [], vs, h => by
    have h' : vs = [] := h
    subst h'
    rfl
  | _ :: r, _, h => by
    obtain ⟨v, t, rfl, h2, h3⟩ := h
    simp [kvr_len h3]
theorem kvr_put {k : Key} {d : D} {v : V} (rd : Rep K ρ H d v) {kvs : List (Key × D)} {vs : List (Key × V)} (h : KvR K ρ H kvs vs) : KvR K ρ H (dput kvs k d) (putK vs k v) := by
  have m : ∀ {l : List (Key × D)} {us : List (Key × V)}, KvR K ρ H l us → KvR K ρ H (l.map fun kv => if kv.1 = k then (kv.1, d) else kv) (us.map fun kv => if kv.1 = k then (kv.1, v) else kv) := fun {l} => by
    induction l with
    | nil =>
      intro us h
      have h' : us = [] := h
      subst h'
      exact rfl
    | cons p r ih =>
      intro us h
      obtain ⟨j, e⟩ := p
      obtain ⟨w, t, rfl, h2, h3⟩ := h
      rw [List.map_cons, List.map_cons]
      by_cases g : j = k
      · rw [if_pos g, if_pos g]
        exact ⟨v, _, rfl, rd, ih h3⟩
      · rw [if_neg g, if_neg g]
        exact ⟨w, _, rfl, h2, ih h3⟩
  have a : ∀ {l : List (Key × D)} {us : List (Key × V)}, KvR K ρ H l us → KvR K ρ H (l ++ [(k, d)]) (us ++ [(k, v)]) := fun {l} => by
    induction l with
    | nil =>
      intro us h
      have h' : us = [] := h
      subst h'
      exact ⟨v, [], rfl, rd, rfl⟩
    | cons p r ih =>
      intro us h
      obtain ⟨j, e⟩ := p
      obtain ⟨w, t, rfl, h2, h3⟩ := h
      exact ⟨w, _, rfl, h2, ih h3⟩
  unfold dput putK
  rw [dany, valV_any]
  obtain ⟨g1, g2⟩ := kvr_get (k := k) h
  cases e : dget kvs k with
  | some x =>
    obtain ⟨w, e1, _⟩ := g1 x e
    rw [e1, if_pos (show (some x).isSome = true from rfl), if_pos (show (some w).isSome = true from rfl)]
    exact m h
  | none =>
    rw [g2 e, if_neg (by simp), if_neg (by simp)]
    exact a h
theorem key_rep {y : D} {k : Key} {v : V} (e : keyD y = some k) (r : Rep K ρ H y v) : v = kV k := by
  cases y with
  | int i =>
    cases e
    simp only [Rep] at r
    exact r
  | str s =>
    cases e
    simp only [Rep] at r
    exact r
  | _ => cases e
end
/-! ### d[k] -/
def dgM : M2 := fun p q _ μ C => match p with
  | .val (.ref n) => (match μ[n]? with
    | some (.dic kvs) => (match q with
      | .val y => (match keyD y with
        | some k => (match dget kvs k with
          | some d => C (.val d) μ
          | none => False)
        | none => False)
      | _ => False)
    | _ => False)
  | _ => False
def rDGet : R2 := fun x y H Q => ∃ a v, x = .ref a ∧ DGet H a y (some v) ∧ Q v H
theorem br_dget {K : PySem.W.Frag} : Br2 K rDGet dgM := by
  intro ρ μ δ σ H p q x y C Q ho rp rq ap c hC
  unfold dgM at c
  split at c
  · rename_i n
    split at c
    · rename_i kvs hn
      split at c
      · rename_i yd
        split at c
        · rename_i k hk
          split at c
          · rename_i d hd
            simp only [PR, Rep] at rp
            obtain ⟨a, rfl, ha⟩ := rp
            obtain ⟨b, hb, ks, h1, h2⟩ := ho.sm.obj n _ hn
            rw [ha] at hb
            cases hb
            obtain ⟨v, e1, r1⟩ := (kvr_get (k := k) h2).1 d hd
            have ey := key_rep hk rq
            subst ey
            refine ⟨a, v, rfl, ?_, hC _ μ c ρ H v (ho.val fun _ => rfl) r1⟩
            rw [← e1]
            exact DGet.k h1
          · exact c.elim
        · exact c.elim
      · exact c.elim
    · exact c.elim
  · exact c.elim
section
variable {X : Cx} {W : WX} {pos : Pos} {a b o i : Expr} {fa fb fo fi : FE}
theorem e_dget (hu : X.A.units + 64 < cLine) (ha : EF X W a fa) (hb : EF X W b fb) (hs : NoSl b := by intro _ _; rfl) : EF X W (.Subscript a b pos) (eOp2 dgM fa fb) :=
  pe_imp (pe_dget (by omega) ha hb hs) fun σ H Q h => (op2_lift br_dget h : tOp rDGet _ _ σ H Q)
/-! ### d[k] = v -/
def gDk (fo fi : FE) : FG := fun p δ μ C E => match p with
  | .val d => fo δ μ (fun q μ1 => fi δ μ1 (fun r μ2 => match q with
    | .val (.ref n) => (match μ2[n]? with
      | some (.dic kvs) => (match r with
        | .val y => (match keyD y with
          | some k => kvs.length < sizeLine ∧ C δ (μ2.set n (.dic (dput kvs k d)))
          | none => False)
        | _ => False)
      | _ => False)
    | _ => False) (fun x μ' => E x δ μ')) (fun x μ' => E x δ μ')
  | _ => False
def rSetD : V → V → V → Hp → (Hp → Prop) → Prop := fun o i v H Q => ∃ a H4, o = .ref a ∧ DPut H a i v H4 ∧ Q H4
theorem set_dict (hu : X.A.units + 64 < cLine) : PSet X rSetD := by
  intro pins s σ H o i v ov iv u Q I ro ri rv h
  obtain ⟨a, H4, rfl, g, q⟩ := h
  obtain rfl : ov = Value.ref a := ro
  exact d_setItem (by omega) I g ri rv fun s' J => ⟨H4, J, q⟩
theorem g_dk (hu : X.A.units + 64 < cLine) (ho : EF X W o fo) (hi : EF X W i fi) (ha : ∀ v, assign (.Subscript o i pos) X.env v = (do
      let ov ← holding [v] (eval o X.env)
      let iv ← holding [v, ov] (eval i X.env)
      standAt pos
      holding [v, ov, iv] (setItem ov iv v)
      release [v, ov, iv] []) := by intro _; rfl) : GF X W (.Subscript o i pos) (gDk fo fi) := by
  refine pg_imp (pg_sub ho hi (set_dict hu) ha) fun v σ H Q ⟨ρ, μ, δ, p, C, E, hh, rp, one, c, hC, hX⟩ => ?_
  cases p with
  | val d =>
    have b0 : ∀ {ρ' : List Addr} {μ' : Mu} {H' : Hp} {F : Addr → Nat}, Evo X.K (footB ρ μ δ) ρ H ρ' μ' H' F → Evo X.K (footP1 (.val d) ρ μ δ) ρ H ρ' μ' H' F := fun {ρ' μ' H' F} e => by
      have z : footP1 (.val d) ρ μ δ = footB ρ μ δ := by funext x; show footP (.val d) x + _ = _; simp [footP]
      rw [z]
      exact e
    have xo : XOut X.K W ρ μ σ H (fun x μ' => E x δ μ') := fun x μ' q ρ' H' cls d e r => hX x δ μ' q ρ' σ H' cls d (b0 ((hh.evoB e).less fun y => by omega)) (hh.after e).ss r
    refine ⟨ρ, μ, δ, _, _, hh, c, fun q μ1 c1 ρ1 H1 v1 e1 r1 => ?_, xo⟩
    refine ⟨ρ1, μ1, δ, _, _, hh.after e1, c1, fun r μ2 c2 ρ2 H2 v2 e2 r2 => ?_, xo.after e1⟩
    have r1' := (e1.wait r1 e2).1
    have h2 := (hh.after e1).after e2
    have e12 := e1.drop.transM e2
    split at c2
    · rename_i n
      split at c2
      · rename_i kvs hn
        split at c2
        · rename_i yd
          split at c2
          · rename_i k hk
            obtain ⟨hl, c3⟩ := c2
            simp only [PR, Rep] at r1'
            obtain ⟨a, rfl, hra⟩ := r1'
            obtain ⟨b, hb, ks, g1, g2⟩ := h2.sm.obj n _ hn
            rw [hra] at hb
            cases hb
            have ey := key_rep hk r2
            subst ey
            have rd : Rep X.K ρ2 H2 d v := Rep.stay (e12.stayM hh.sm) e12.ext d v rp
            have lk := kvr_len g2
            refine ⟨a, _, rfl, DPut.k g1 (by omega), ?_⟩
            have ev0 := Evo.set (o' := .dic (dput kvs k d)) (u := .dK (putK ks k v)) (Fi := F0) (Fo := F0) h2.sm (fun x => by have := h2.le x; have z : F0 x = 0 := rfl; omega) hra hn (fun x => Nat.le_refl _)
              fun st ko => ⟨_, upd_same, kvr_put (rd.stay st (Ext.refl ρ2)) (g2.stay st (Ext.refl ρ2))⟩
            have ev : Evo X.K (footM ρ2 μ2) ρ2 H2 ρ2 (μ2.set n (.dic (dput kvs k d))) (upd H2 a (.dK (putK ks k v))) F0 := ⟨ev0.sm, ev0.ext, fun b o q z => ev0.keep b o q (by show F0 b + footM ρ2 μ2 b = 0; rw [z]), fun b q => by
              rcases ev0.grow b q with t | t
              · exact .inl (by have t' : 1 ≤ F0 b + footM ρ2 μ2 b := t; have z : F0 b = 0 := rfl; omega)
              · exact .inr t, ev0.one⟩
            have h3 := h2.after ev
            exact hC δ _ c3 ρ2 σ _ (b0 ((hh.evoB (e12.transM ev)).less (G := footS δ) fun y => by omega)) h3.ss
          · exact c2.elim
        · exact c2.elim
      · exact c2.elim
    · exact c2.elim
  | own a ds => exact c.elim
  | bor a pl => exact c.elim
/-! ### {} -/
def eDnew : FE := fun _ μ C _ => C (.val (.ref μ.length)) (μ ++ [.dic []])
theorem e_dnew : EF X W (.Dict [] [] pos) eDnew := pe_imp pe_dnewK fun σ H Q ⟨ρ, μ, δ, C, E, ho, c, hC, hX⟩ p np => by
  have ev : Evo X.K (footM ρ μ) ρ H (ρ ++ [p]) (μ ++ [.dic []]) (upd H p (.dK [])) F0 := Evo.push ho.sm ho.le np (fun _ => rfl) ⟨[], upd_same, rfl⟩
  refine hC _ _ c _ _ _ ev ?_
  simp only [PR, Rep]
  exact ⟨p, rfl, by rw [← ho.sm.len]; simp⟩
/-! ### d.get(k, x) -/
def dgtC (n : Nat) (y : D) (C : P → Mu → Prop) (d : D) (μ3 : Mu) : Prop := match μ3[n]? with
  | some (.dic kvs) => (match keyD y with
    | some k => C (.val ((dget kvs k).getD d)) μ3
    | none => False)
  | _ => False
def eDgt (fo fk fx : FE) : FE := fun δ μ C E => fo δ μ (fun p μ1 => match p with
  | .val (.ref n) => (match μ1[n]? with
    | some (.dic _) => fk δ μ1 (fun q μ2 => match q with
      | .val y => fx δ μ2 (fun z μ3 => asD z fun d => dgtC n y C d μ3) E
      | _ => False) E
    | _ => False)
  | _ => False) E
theorem e_dgt {e f : Expr} {apos cpos : Pos} {fk fx : FE} (hu : X.A.units + 64 < cLine) (ho : EF X W o fo) (he : EF X W e fk) (hf : EF X W f fx) (hb : attributeBase o "get" X.env (eval o X.env) = eval o X.env := by rfl)
    (h1 : ((backTo cpos (starEach [e, f] X.env)).all (fun x => !x.1) && (backToKw cpos (keywordEach [] X.env)).all (fun x => x.1.isSome)
    && decide (([e, f] : List Expr).length + ([] : List Keyword).length + (if ([] : List Keyword).isEmpty then 0 else 1) < 30)) = true := by rfl)
    (h2 : (apos.endLine == cpos.line) = true := by rfl) (h3 : backTo cpos (starEach [e, f] X.env) = [(false, eval e X.env), (false, eval f X.env)] := by rfl) : EF X W (.Call (.Attribute o "get" apos) [e, f] [] cpos) (eDgt fo fk fx) :=
  pe_imp (pe_dget2 (by omega) ho he (e_frz hf) ⟨hb, h1, h2, h3⟩) fun σ H Q ⟨ρ, μ, δ, C, E, hh, c, hC, hX⟩ => by
    refine ⟨ρ, μ, δ, _, _, hh, c, fun p μ1 c1 ρ1 H1 v1 e1 r1 => ?_, hX⟩
    split at c1
    · rename_i n
      split at c1
      · rename_i kv0 hn0
        simp only [PR, Rep] at r1
        obtain ⟨a, rfl, hra⟩ := r1
        obtain ⟨b, hb, ks, g1, g2⟩ := e1.sm.obj n _ hn0
        rw [hra] at hb
        cases hb
        have e1' := e1.drop
        refine ⟨a, rfl, .inl ⟨ks, .inl g1⟩, ρ1, μ1, δ, _, _, hh.after e1', c1, fun q μ2 c2 ρ2 H2 v2 e2 r2 => ?_, hX.after e1'⟩
        split at c2
        · rename_i y
          have h2 := (hh.after e1').after e2
          have e12 := e1'.transM e2.drop
          refine ⟨ρ2, μ2, δ, fun (z : P) (μ3 : Mu) => ∃ d, z = .val d ∧ dgtC n y C d μ3, E, h2, ?_, fun z μ3 c3 ρ3 H3 v3 e3 r3 => ?_, hX.after e12⟩
          · unfold eFrz
            have m : (fun (z : P) (μ3 : Mu) => asD z fun d' => ∃ d, P.val d' = .val d ∧ dgtC n y C d μ3) = fun z μ3 => asD z fun d => dgtC n y C d μ3 := by
              funext z μ3
              cases z with
              | val d => exact propext ⟨fun ⟨d', e, h⟩ => by cases e; exact h, fun h => ⟨d, rfl, h⟩⟩
              | own a ds => exact propext ⟨fun ⟨d', e, h⟩ => by cases e; exact h, fun h => ⟨_, rfl, h⟩⟩
              | bor a pl => rfl
            rw [m]
            exact c2
          · obtain ⟨d, rfl, c3⟩ := c3
            unfold dgtC at c3
            split at c3
            · rename_i kvs hn
              split at c3
              · rename_i k hk
                obtain ⟨b, hb, ks3, g3, g4⟩ := e3.sm.obj n _ hn
                have ha3 := (e2.ext.trans e3.ext) n a hra
                rw [ha3] at hb
                cases hb
                have ey := key_rep hk r2
                subst ey
                obtain ⟨k1, k2⟩ := kvr_get (k := k) g4
                refine ⟨valV ks3 k, DGet.k g3, hC _ μ3 c3 ρ3 H3 _ (e12.transM e3.drop) ?_⟩
                cases hq : dget kvs k with
                | some x =>
                  obtain ⟨v, q1, q2⟩ := k1 x hq
                  rw [q1]
                  exact q2
                | none =>
                  rw [k2 hq]
                  exact r3
              · exact c3.elim
            · exact c3.elim
        · exact c2.elim
      · exact c1.elim
    · exact c1.elim
end
/-! ### {k: v, ..} -/
def eDic (ks : List Key) (r : FA) : FE := fun δ μ C E => r δ μ (fun ds μ1 => C (.val (.ref μ1.length)) (μ1 ++ [.dic (ks.zip ds)])) E
/-- the pairs of a display -/
structure DF (X : Cx) (W : WX) (pos : Pos) (keys : List (Option Expr)) (values : List Expr) (ks : List Key) (r : FA) : Prop where
  ok : ∃ trs, PPs X pos keys values trs ∧ keys.length = ks.length ∧ ∀ ρ μ δ C E σ H Q, Hold X.K ρ μ δ σ H → r δ μ C E → XOut X.K W ρ μ σ H E →
    (∀ ds μ', C ds μ' → ∀ ρ' H' vs, Evo X.K (footM ρ μ) ρ H ρ' μ' H' F0 → Reps X.K ρ' H' ds vs → vs.length = ks.length → Q ((ks.map kV).zip vs) H') → tPairs trs σ H Q
section
variable {X : Cx} {W : WX} {pos : Pos} {keys : List (Option Expr)} {values : List Expr} {ks : List Key} {r : FA}
theorem d_nil : DF X W pos [] [] [] aNil := ⟨[], pps_nil, rfl, fun ρ μ δ C E σ H Q ho c hX hC => hC [] μ c ρ H [] ho.refl reps_nil rfl⟩
theorem d_cons {k v : Expr} {key : Key} {f : FE} (hk : PE X k (tC (kV key))) (hv : EF X W v f) (h : DF X W pos keys values ks r) : DF X W pos (some k :: keys) (v :: values) (key :: ks) (aCons f r) := by
  obtain ⟨trs, h1, hl, h2⟩ := h
  refine ⟨(_, _) :: trs, pps_cons hk (e_frz hv) h1, by simp [hl], fun ρ μ δ C E σ H Q ho c hX hC => ?_⟩
  show liftE X.K W (eFrz f) σ H _
  refine ⟨ρ, μ, δ, fun p μ1 => ∃ d, p = .val d ∧ r δ μ1 (fun ds μ2 => C (d :: ds) μ2) E, E, ho, ?_, fun p μ1 c1 ρ1 H1 v1 e1 r1 => ?_, hX⟩
  · unfold eFrz
    unfold aCons at c
    have m : (fun (p : P) (μ1 : Mu) => asD p fun d => ∃ d', P.val d = .val d' ∧ r δ μ1 (fun ds μ2 => C (d' :: ds) μ2) E) = fun p μ1 => asD p fun d => r δ μ1 (fun ds μ2 => C (d :: ds) μ2) E := by
      funext p μ1
      cases p with
      | val d => exact propext ⟨fun ⟨d', e, h⟩ => by cases e; exact h, fun h => ⟨d, rfl, h⟩⟩
      | own a ds => exact propext ⟨fun ⟨d', e, h⟩ => by cases e; exact h, fun h => ⟨_, rfl, h⟩⟩
      | bor a pl => rfl
    rw [m]
    exact c
  · obtain ⟨d, rfl, c1⟩ := c1
    have e1' := e1.drop
    refine h2 ρ1 μ1 δ _ E σ H1 _ (ho.after e1') c1 (hX.after e1') fun ds μ2 c2 ρ2 H2 vs e2 r2 l2 => ?_
    exact hC (d :: ds) μ2 c2 ρ2 H2 (v1 :: vs) (e1'.transM e2) (reps_cons (Rep.stay (e2.stayM e1.sm) e2.ext d v1 r1) r2) (by simp [l2])
theorem zip_kV : ∀ (ks : List Key) (vs : List V), (ks.map kV).zip vs = (ks.zip vs).map fun kv => (kV kv.1, kv.2)
  | [], _ => rfl
  | _ :: _, [] => rfl
  | k :: ks, v :: vs => by
    rw [List.map_cons, List.zip_cons_cons, List.zip_cons_cons, List.map_cons, zip_kV ks vs]
theorem kvr_zip {K : PySem.W.Frag} {ρ : List Addr} {H : Hp} : ∀ {ks : List Key} {ds : List D} {vs : List V}, Reps K ρ H ds vs → vs.length = ks.length → KvR K ρ H (ks.zip ds) (ks.zip vs)
  | [], _, _, _, _ => rfl
  | k :: ks, ds, vs, h, l => by
    cases ds with
    | nil =>
      simp only [Reps] at h
      subst h
      simp at l
    | cons d ds =>
      simp only [Reps] at h
      obtain ⟨v, t, rfl, h2, h3⟩ := h
      exact ⟨v, _, rfl, h2, kvr_zip h3 (by simpa using l)⟩
theorem merge_nodup : ∀ (more kvs : List (Key × V)), ((kvs ++ more).map (·.1)).Nodup → mergeK kvs more = kvs ++ more
  | [], kvs, _ => by simp [mergeK]
  | (k, v) :: r, kvs, h => by
    have n : valV kvs k = none := by
      have : ¬ k ∈ kvs.map (·.1) := fun m => by
        rw [List.map_append, List.nodup_append] at h
        exact h.2.2 k m k (by simp) rfl
      cases e : valV kvs k with
      | none => rfl
      | some x =>
        exfalso
        have z := valV_any k kvs
        rw [e] at z
        obtain ⟨y, hy, hk⟩ := List.any_eq_true.mp z
        exact this (List.mem_map.mpr ⟨y, hy, by simpa using hk⟩)
    show mergeK (putK kvs k v) r = _
    rw [putK_new v n, merge_nodup r (kvs ++ [(k, v)]) (by simpa using h)]
    simp
theorem e_dic (h : DF X W pos keys values ks r) (hnd : ks.Nodup := by decide +kernel) (hall : keys.all (·.isSome) = true := by rfl) (hl : keys.length = values.length := by rfl) (h0 : keys ≠ [] := by simp) (h15 : keys.length ≤ 15 := by decide) :
    EF X W (.Dict keys values pos) (eDic ks r) := by
  obtain ⟨trs, h1, hlen, h2⟩ := h
  refine pe_imp (pe_disp h1 hall hl h0 h15) fun σ H Q ⟨ρ, μ, δ, C, E, ho, c, hC, hX⟩ p np => ?_
  have ev0 : Evo X.K (footM ρ μ) ρ H ρ μ (upd H p (.dK [])) F0 := (Evo.new (o := .dK []) ho.sm ho.le np).drop
  have fp : footM ρ μ p = 0 := by
    by_cases z : 1 ≤ footM ρ μ p
    · obtain ⟨o, e, _⟩ := ho.sm.foot z
      rw [np] at e
      cases e
    · omega
  refine h2 ρ μ δ _ E σ _ _ (ho.after ev0) c (hX.after ev0) fun ds μ1 c1 ρ1 H1 vs e1 r1 l1 => ?_
  have hp : H1 p = some (.dK []) := e1.keep p _ upd_same fp
  have f1 : footM ρ1 μ1 p = 0 := by
    by_cases z : 1 ≤ footM ρ1 μ1 p
    · rcases e1.grow p (by have t : F0 p = 0 := rfl; omega) with q | q
      · omega
      · rw [upd_same] at q
        cases q
    · omega
  refine ⟨hp, ks.zip vs, zip_kV ks vs, by rw [List.length_zip]; omega, ?_⟩
  rw [merge_nodup _ [] (by
    rw [List.nil_append, List.map_fst_zip (by omega)]
    exact hnd), List.nil_append]
  have st : Stay H1 (upd H1 p (.dK (ks.zip vs))) := fun b u q f => by
    rw [upd_ne]
    · exact q
    · intro z
      rw [z, hp] at q
      cases q
      exact f
  have e2 := ev0.transM e1
  have sm1 : SM X.K ρ1 μ1 (upd H1 p (.dK (ks.zip vs))) := e1.sm.stay st fun b u q w => by
    rw [upd_ne (fun z => by rw [z] at q; omega)]
    exact w
  refine hC _ _ c1 (ρ1 ++ [p]) _ (.ref p) ⟨sm1.push ⟨_, upd_same, kvr_zip (r1.stay st (Ext.app _ _)) l1⟩, e2.ext.trans (Ext.app _ _), fun b u q w => ?_, fun x q => ?_, fun x => ?_⟩ ?_
  · rw [upd_ne (ne_of_none q np)]
    exact e2.keep b u q w
  · rw [footM_app _ _ _ _ _ e1.sm.len] at q
    by_cases hx : x = p
    · exact .inr (by rw [hx]; exact np)
    · rw [if_neg hx] at q
      exact e2.grow x (by have t : footO (.dic (ks.zip ds)) x = 0 := rfl; have t2 : footP (.val (.ref μ1.length)) x = 0 := rfl; have t3 : F0 x = 0 := rfl; omega)
  · rw [footM_app _ _ _ _ _ e1.sm.len]
    have t : footO (.dic (ks.zip ds)) x = 0 := rfl
    have t2 : footP (.val (.ref μ1.length)) x = 0 := rfl
    by_cases hx : x = p
    · subst hx
      rw [if_pos rfl]
      omega
    · rw [if_neg hx]
      have := e2.one x
      omega
  · simp only [PR, Rep]
    exact ⟨p, rfl, by rw [← e1.sm.len]; simp⟩
end
end NT

/-! NT: an own exception's __init__ that says super().__init__(f'..') and keeps one field. -/
namespace NT
open PySem PySem.Spec PyProof.Rows L2
/-- the frame of such an __init__ -/
def cxS (CX : CXT) (P : Program) (w : World) (K : PySem.W.Frag) (mg : Str → Option Value) (base : Heap) (N : List Str) (env : Env) (A : Around) (outer : List Env) (s : Shared) (H : Hp) (E : XK) : Cx where
  prog := P
  w := w
  K := K
  mg := mg
  base := base
  A := A.deeper env
  N := N
  s_0 := s
  H_0 := H
  env := env
  outer := outer
  stack := env :: outer
  ex := []
  calm := true
  fn := fun _ => false
  pn := []
  xe := fun e s' => wpAny (model P w) (A.deeper env) (leaving env e) (fun _ s'' => CX outer H s E e s'') (fun e' s'' => CX outer H s E e' s'') s'
/-- what the written part says of the class and of its __init__ -/
structure SupC (P : Program) (K : PySem.W.Frag) (C fI cc cda : Addr) : Prop where
  ox : OexC K C
  code : ∃ (ccl : Value) (cdd : Option Addr) (vs : Array Value) (ccs : Array (Option Value)) (file : Str) (tf : Tok), K.lookup cda = some ⟨ccl, cdd, .fields vs, ccs⟩ ∧ vs[2]? = some (.str file tf) ∧ ((P.main.file : Str) == file) = true
  cell : ∃ (cl : Value) (cld : Option Addr) (csl : Array (Option Value)), K.lookup cc = some ⟨cl, cld, .cell (some (.ref C)), csl⟩
  opq : PySem.W.nsIn K cStatics "thirdparty.any" = some none
  sup : PySem.W.ks_superIn K C C "__init__" = some (some (.builtin "ValueError.__init__"))
  ve : PySem.W.subIn K (.ref C) (.type "ValueError") = some true
  self : PySem.W.mroIn K C (.ref C) = some true
  top : (P.main.scope.names.lookup ("super" : Str)).isSome = false
  line : PySem.W.findIn K (.ref C) "line" = some none
section
variable {P : Program} {w : World} {K : PySem.W.Frag} {mg : Str → Option Value} {base : Heap} {CX : CXT} {C fI cc cda : Addr} {qual : Str} {params : Arguments} {scope : Scope} {dV kV doc pm ct oc : Value} {an od : Option Addr} {osl : Array (Option Value)} {t1 t2 : Str} {j1 j2 : Nat} {q1 q2 q3 q4 : Pos} {p0 p1 p2 p3 p4 p5 p6 p7 p8 p9 : Pos}
abbrev supBody (js : List Expr) (p0 p1 p2 p3 p4 p5 p6 p7 p8 p9 : Pos) : List Stmt :=
  [.Expr (.Call (.Attribute (.Call (.Name "super" p0) [] [] p1) "__init__" p2) [.JoinedStr js p3] [] p4) p5, .Assign [.Attribute (.Name "self" p6) "line" p7] (.Name "line" p8) p9]
abbrev supJs (t1 t2 : Str) (j1 j2 : Nat) (q1 q2 q3 q4 : Pos) : List Expr := [.Constant (.str t1) j1 q1, .FormattedValue (.Name "line" q2) (-1) none q3, .Constant (.str t2) j2 q4]
/-- the built-in __init__, bound to the exception, called -/
theorem mw_call {A : Around} {E : Value → Shared → Prop} {Q : Value → Shared → Prop} {h : Heap} {g : Array GenState} {d : Drawn} {t : Nat} {os : OsState} {uu e t0 C : Addr} {rest : List Value} {nm q : Str} {N : Addr} {bs bm : List Value} {hdct : Bool} {sn : List Str} {sub : List Value} {ab : Bool} {col : Option Bool} {dd : Option Addr} {k0 k1 k2 k3 k5 : Option Value}
    (hu : h.get? uu = some (PySem.W.kxs_mw "ValueError.__init__" e)) (hC : h.get? C = some (excClassObj nm q C N bs bm hdct sn sub ab col dd k0 k1 k2 k3 k5 "ValueError.__new__")) (he : h.get? e = some (PySem.HandSPX.excO C t0)) (hrest : rest.length ≤ sizeLine)
    (hq : ∀ h' t1, (∀ b o, b ≠ e → h.get? b = some o → h'.get? b = some o) → h'.get? e = some (PySem.HandSPX.excO C t1) → Q .none ⟨h', g, d, t, os⟩) :
    wpAny (model P w) A (call (.ref uu) rest) Q E ⟨h, g, d, t, os⟩ := by
  refine wpAny_call (codeAny_of_tree ?_)
  show wpAny _ A.in1 (callAny (.ref uu) ⟨rest, []⟩) _ _ _
  simp only [callAny]
  refine wpAny_bind (wpAny_load hu ?_)
  simp only [PySem.W.kxs_mw, show (Value.type "method-wrapper" == Value.type "method" || Value.type "method-wrapper" == Value.type "builtin_function_or_method" || Value.type "method-wrapper" == Value.type "method-wrapper") = true by decide, if_true]
  refine PySem.W.KFB.if_so (by decide) ?_
  refine wpAny_bind (PySem.W.check_bound_init F.excBase_ValueError.toExcCallFacts hC he rfl ?_)
  refine wpAny_bind (wpAny_pure (wpAny_pure ?_))
  refine ⟨plainId_quiet F.excBase_ValueError.init.plain _, codeAny_builtin F.excBase_ValueError.initEntry ?_⟩
  rw [Around.under_plainId F.excBase_ValueError.init.plain _]
  exact PySem.W.exc_init_tree he hrest fun h' k' e' _ => hq h' _ k' e'
theorem sup_run (S : SupC P K C fI cc cda) (lk : K.lookup fI = some ⟨oc, od, .func (PySem.W.ksFn "__init__" qual params (supBody (supJs t1 t2 j1 j2 q1 q2 q3 q4) p0 p1 p2 p3 p4 p5 p6 p7 p8 p9) scope dV kV doc pm an (.ref cda) ct cc), osl⟩) (hcd : PySem.W.codeIn K (.ref cda) qual = true)
    (hsup : mg "super" = none) (hk : scope.kind = .function) (ls : scope.names.lookup ("self" : Str) = some .local) (ll : scope.names.lookup ("line" : Str) = some .local) (lu : scope.names.lookup ("super" : Str) = some .globalImplicit) (lc : scope.names.lookup ("__class__" : Str) = some .free) (nc : ∀ x ∈ scope.names, x.2 ≠ .cell) (nf : ∀ x ∈ scope.names, x.2 = .free → x.1 = "__class__") (ar : Arg) (har : (params.posonlyargs ++ params.args).head? = some ar) (hself : ar.arg = "self")
    (hco : scope.isCoroutine = false) (hgen : scope.isGenerator = false)
    (hev : ∀ L, ∃ pl : Sem Bool, eval (.Call (.Attribute (.Call (.Name "super" p0) [] [] p1) "__init__" p2) [.JoinedStr (supJs t1 t2 j1 j2 q1 q2 q3 q4) p3] [] p4) (PySem.W.ksEnv qual scope L fI (.ref cda) cc) = (do
      let ov ← attributeBase (.Call (.Name "super" p0) [] [] p1) "__init__" (PySem.W.ksEnv qual scope L fI (.ref cda) cc) (eval (.Call (.Name "super" p0) [] [] p1) (PySem.W.ksEnv qual scope L fI (.ref cda) cc))
      standAt p2.atName
      let (f, first) ← holding [ov] (getMethod ov "__init__" pl)
      callWith p4 f first (backTo p4 (starEach [.JoinedStr (supJs t1 t2 j1 j2 q1 q2 q3 q4) p3] (PySem.W.ksEnv qual scope L fI (.ref cda) cc))) []))
    (hin : ∀ L, interactive (PySem.W.ksEnv qual scope L fI (.ref cda) cc) = false) (hsw : ∀ L, swapsWith (.Call (.Attribute (.Call (.Name "super" p0) [] [] p1) "__init__" p2) [.JoinedStr (supJs t1 t2 j1 j2 q1 q2 q3 q4) p3] [] p4) none p5.line (PySem.W.ksEnv qual scope L fI (.ref cda) cc) = pure false)
    (hsw2 : ∀ L, swapsWith (.Name "line" p8) (some (.Attribute (.Name "self" p6) "line" p7)) p9.line (PySem.W.ksEnv qual scope L fI (.ref cda) cc) = pure false)
    {A : Around} {outer : List Env} {s : Shared} {H : Hp} {Q : VK} {E : XK} {e : Addr} {u : Value} {i : Int} {args : Args} {k : Nat} (room : Room k A) (e0 : Env0 P w K mg base A outer s H) (he : H e = some (exo e C none)) (ru : RelV (.int i) u) (hi : i.natAbs.log2 < 1920) (hz : (Str.empty ++ t1).length ≤ sizeLine ∧ (Str.empty ++ t1 ++ toString i).length ≤ sizeLine ∧ (Str.empty ++ t1 ++ toString i ++ t2).length ≤ sizeLine)
    (hb : BindsTo s (PySem.W.ksFn "__init__" qual params (supBody (supJs t1 t2 j1 j2 q1 q2 q3 q4) p0 p1 p2 p3 p4 p5 p6 p7 p8 p9) scope dV kV doc pm an (.ref cda) ct cc) args [("self", .ref e), ("line", u)])
    (hq : ∀ dx, H dx = none → dx ≠ e → Q .non (upd (upd H dx (exd dx [("line", .int i)])) e (exo e C (some dx)))) :
    codeAny (model P w) A (.call (.ref fI) args) (CR CX outer P w H s Q E) s := by
  have inK : K.In s.heap := e0.mod.kin.keeps fun a o z => (e0.bs a o z).1
  have noLim : s.heap.NoLimit := e0.mod.nolimit.keeps fun a o z => (e0.bs a o z).1
  refine ks_codeAny_call_defAt room.depth (inK _ _ lk) rfl noLim (PySem.W.codeRec_of inK hcd) rfl hb nc (fun y hy => ?_) (fun h₀ hns keep => ?_) hco hgen hk
  · rcases List.mem_cons.mp hy with rfl | hy
    · exact ls
    · rw [List.mem_singleton.mp hy]
      exact ll
  have cell_look : ∀ y c, List.lookup y [(("__class__" : Str), cc)] = some c → y = "__class__" ∧ c = cc := fun y c h => by
    rw [List.lookup_cons] at h
    cases q : (y == ("__class__" : Str)) with
    | true =>
      rw [q] at h
      exact ⟨eq_of_beq q, (Option.some.inj h).symm⟩
    | false => rw [q] at h; cases h
  obtain ⟨cl, cld, csl, hcc⟩ := S.cell
  have hccs := inK _ _ hcc
  have hccH : H cc = none := (e0.bs cc _ (e0.mod.kin _ _ hcc)).2
  obtain ⟨env, henv⟩ : ∃ env, env = PySem.W.ksEnv qual scope s.heap.objs.size fI (.ref cda) cc := ⟨_, rfl⟩
  have hX : ∃ X : Cx, X = cxS CX P w K mg base ["self", "line"] (PySem.W.ksEnv qual scope s.heap.objs.size fI (.ref cda) cc) A outer s H E := ⟨_, rfl⟩
  obtain ⟨X, hX⟩ := hX
  have I0 : Inv X [] [some (.ref e), some (.int i)] H ⟨h₀, s.gens, s.drawn, s.toks + 2, s.os⟩ := by
    subst hX
    have noA : ∀ b : Addr, b ∉ ([] : List Addr) := fun b z => by simp at z
    refine ⟨⟨e0.mod, hk, rfl, rfl, Nat.le_refl _, fun y z c g1 g2 => ?_, fun y hy => ?_, fun y c z _ => Bool.noConfusion z, fun _ => room.hd, Around.frames_deeper e0.frames, .inr ⟨rfl, rfl⟩, fun b z => absurd z (noA b), e0.bs, e0.bsz, fun b _ _ => noA b, fun b z => absurd z (noA b), e0.funs, e0.frf⟩,
      rfl, e0.bare, Un.kept keep, ⟨_, hns, fun j y v g1 g2 g3 => ?_⟩, fun y c h => ?_, e0.hok.fresh (Nat.le_refl _), fun y c h => ?_, fun p hp => absurd (show p ∈ ([] : List (Addr × Obj)) from hp) (by simp), e0.hok.kept keep, rfl⟩
    · rw [(cell_look y c g1).1, (cell_look z c g2).1]
    · have hy' : scope.names.lookup y = some .cell ∨ scope.names.lookup y = some .free := hy
      rcases hy' with hy' | hy'
      · exact absurd rfl (nc _ (PySem.mem_of_lookup hy'))
      · have := nf _ (PySem.mem_of_lookup hy') rfl
        simp only at this
        subst this
        exact ⟨cc, rfl⟩
    · match j with
      | 0 =>
        simp only [cxS, List.getElem?_cons_zero, Option.some.injEq] at g1 g2
        subst g1 g2
        exact ⟨.ref e, rfl, .inl ⟨ls, rfl⟩⟩
      | 1 =>
        simp only [cxS, List.getElem?_cons_zero, List.getElem?_cons_succ, Option.some.injEq] at g1 g2
        subst g1 g2
        exact ⟨u, ru, .inl ⟨ll, rfl⟩⟩
      | j + 2 => simp [cxS] at g1
    · obtain ⟨rfl, rfl⟩ := cell_look y c h
      exact ⟨_, _, keep _ _ hccs, rfl⟩
    · obtain ⟨rfl, rfl⟩ := cell_look y c h
      exact hccH
  have hXe : X.env = PySem.W.ksEnv qual scope s.heap.objs.size fI (.ref cda) cc := by rw [hX]; rfl
  obtain ⟨pl, hev⟩ := hev s.heap.objs.size
  refine ks_wpAt_execs_cons (ks_wpAt_Expr_any (ks_wpAt_MethodCall ?_ hev) (hin _) (hsw _))
  have bk : ∀ b o, K.lookup b = some o → h₀.get? b = some o := fun b o z => keep _ _ (inK _ _ z)
  obtain ⟨ccl, cdd, vs, ccs, file, tf, hco1, hvs, hfile⟩ := S.code
  obtain ⟨nm, qn, N0, bs, bm, sn, sub, ab, col, dd, k0, k1, k2, k3, k5, hC, hbm⟩ := S.ox.cls
  obtain ⟨tt, hx⟩ := exo_at e0.hok he
  have hx0 := keep _ _ hx
  have hC0 := bk _ _ hC
  have X0 : K.In h₀ := fun b o z => bk b o z
  have hcl : PySem.W.clsIn K C = some { name := nm, bases := bs, mro := .ref C :: bm, ns := N0, qualname := qn, hasDict := true, slotNames := sn, subclasses := sub, abstract := ab, collection := col, hasDel := false } := by unfold PySem.W.clsIn; rw [hC] <;> rfl
  refine ks_wpAt_super_base lu lc (by decide) rfl (bk _ _ lk) rfl har rfl (bk _ _ hco1) rfl hvs hfile S.top ?_
  obtain ⟨mb, hm1, hm2⟩ := e0.mod.blt
  have kb : ∀ b o, base.get? b = some o → h₀.get? b = some o := fun b o z => keep _ _ (e0.bs b o z).1
  refine PySem.W.ks_loadName_global hk lu (Calls.loadGlobal_builtin (env := PySem.W.ksEnv qual scope s.heap.objs.size fI (.ref cda) cc) (e0.mod.glob.keeps kb) hsup (hm1.keeps kb) ((hm2 "super" (by decide)).trans (by decide +kernel : bootBuiltins "super" = some (.type "super"))) ⟨rfl, ?_⟩)
  refine wpAny_loadName_free hk lc rfl ⟨_, keep _ _ hccs, rfl⟩ ?_
  rw [hself]
  refine wpAny_loadName_local hk ls hns (v := .ref e) rfl ?_
  refine ks_wpAny_isType_cls hC0 rfl ⟨rfl, ?_⟩
  refine ks_wpAny_call_super hC0 rfl hx0 rfl (fun c z => by cases z) (PySem.W.looks_mroIn X0 S.self) (fun h' hso k' => ?_)
  have X1 : K.In h' := X0.keeps k'
  have hIn : PySem.W.Looks (model P w) h' (isInstance (.ref e) (.type "ValueError")) true :=
    (PySem.W.InstAt.type (C := C) (od := none) ⟨k' _ _ hx0, rfl, rfl, trivial⟩).andThen (PySem.W.looks_subIn X1 S.ve)
  have hf := S.sup
  unfold PySem.W.ks_superIn at hf
  rw [hcl] at hf
  have neC : e ≠ C := fun z => by
    rw [z, hC0] at hx0
    cases hx0
  refine PySem.W.kxs_getMethod PySem.W.kxs_ValueError hso (PySem.W.looks_opaque X1 S.opq) (fun A Q E s k q => wpAny_bind ((PySem.W.looks_clsIn X1 hcl) A _ E s k (wpAny_pure q))) rfl X1 hf hIn neC (by decide) ?_
  have I1 : Inv X [] [some (.ref e), some (.int i)] H ⟨h', s.gens, s.drawn, s.toks + 2, s.os⟩ := I0.kept k'
  have I2 : Inv X [(h'.objs.size, PySem.W.kxs_mw "ValueError.__init__" e)] [some (.ref e), some (.int i)] H ⟨h'.push (PySem.W.kxs_mw "ValueError.__init__" e), s.gens, s.drawn, s.toks + 2 + 1, s.os⟩ :=
    ClX.pin_new (s := ⟨h', s.gens, s.drawn, s.toks + 2, s.os⟩) (t' := s.toks + 2 + 1) I1 (fun _ _ z => Heap.get?_push_of_some _ z) (Nat.le_refl _) (Heap.get?_push_size h' rfl) (fun v z => nomatch z)
  subst hX
  have ha : PA (cxS CX P w K mg base ["self", "line"] (PySem.W.ksEnv qual scope s.heap.objs.size fI (.ref cda) cc) A outer s H E) [.JoinedStr (supJs t1 t2 j1 j2 q1 q2 q3 q4) p3] _ :=
    pa_cons (pe_joined (PJ.cons pe_str (PJ.cons (pe_fmt (pe_var (i := 1) rfl (.inl ll))) (PJ.cons pe_str PJ.nil)))) pa_nil
  refine PySem.W.kxs_callWith (i := "ValueError.__init__") (x := e) rfl (Calls.evalArgs_plain (thn (ha.run p4 _ _ _ H (fun vs H1 => vs.length = 1 ∧ H1 = H) I2 ?_) fun us s1 ⟨vs, H1, I3, rv, lv, eH⟩ => ?_))
  · refine ⟨_, rfl, hz.1, ?_⟩
    refine ⟨.int i, rfl, .inr ⟨i, rfl, hi, ?_⟩⟩
    refine ⟨_, rfl, hz.2.1, ?_⟩
    refine ⟨_, rfl, hz.2.2, ?_⟩
    exact ⟨rfl, rfl⟩
  rw [eH] at I3
  have lu1 : us.length ≤ sizeLine := by
    rw [← rv.length, lv]
    exact sz (by decide)
  have hu := ClX.pin_at I3
  refine ⟨hu, ?_⟩
  obtain ⟨t0, hoe⟩ := exo_at I3.hok he
  have K3 := I3.kIn
  obtain ⟨hp3, g3, d3, tk3, os3⟩ := s1
  refine mw_call hu (K3 _ _ hC) hoe lu1 fun h4 t4 k4 he4 => ?_
  have J := (ClX.unpin I3).write (t' := tk3) (x := e) (e := e) (o := exo e C none) (by rw [he]; exact True.intro) (.inl rfl) k4 ⟨_, he4⟩ (exo_ok he4)
  have eu : upd H e (exo e C none) = H := by
    funext b
    by_cases hb : b = e
    · rw [hb, upd_same, he]
    · rw [upd_ne hb]
  rw [eu] at J
  dsimp only
  refine PySem.wpAt_of_wpAny ?_
  have ho := (pss_one (ps_ost (f := "line") (pe_var (X := cxS CX P w K mg base ["self", "line"] (PySem.W.ksEnv qual scope s.heap.objs.size fI (.ref cda) cc) A outer s H E) (i := 0) (x := "self") (pos := p6) rfl (.inl ls)) (pe_var (i := 1) (x := "line") (pos := p8) rfl (.inl ll)) (p' := p7) (pos := p9) (hsw2 _))).run [] _ _ H { nx := fun _ H' => Q .non H', rt := fun _ _ => False } J ?_
  · refine wpAny_mono ho (fun fl s' hs => ?_) fun e s' hs => hs
    cases fl with
    | next =>
      obtain ⟨σ', H', J2, q⟩ := hs
      exact ⟨.non, H', J2.os, J2.bare, J2.base, J2.hok, rfl, q⟩
    | ret u =>
      obtain ⟨v, σ', H', J2, _, q⟩ := hs
      exact q.elim
    | cont =>
      obtain ⟨_, _, _, q⟩ := hs
      exact q.elim
    | brk =>
      obtain ⟨_, _, _, q⟩ := hs
      exact q.elim
  · refine ⟨.int i, rfl, .ref e, rfl, e, C, rfl, S.ox, S.line, .inl ⟨he, fun dx n ne => hq dx n ne⟩⟩
/-- the line's number: nought alone, as yet -/
def supSp (C : Addr) : Sp := fun vs H Q _ => ∃ (e : Addr) (i : Int), vs = [.ref e, .int i] ∧ H e = some (exo e C none) ∧ i = 0 ∧ ∀ dx, H dx = none → dx ≠ e → Q .non (upd (upd H dx (exd dx [("line", .int i)])) e (exo e C (some dx)))
theorem sup_ok (S : SupC P K C fI cc cda) (lk : K.lookup fI = some ⟨oc, od, .func (PySem.W.ksFn "__init__" qual params (supBody (supJs t1 t2 j1 j2 q1 q2 q3 q4) p0 p1 p2 p3 p4 p5 p6 p7 p8 p9) scope dV kV doc pm an (.ref cda) ct cc), osl⟩) (hcd : PySem.W.codeIn K (.ref cda) qual = true)
    (hsup : mg "super" = none) (hk : scope.kind = .function) (ls : scope.names.lookup ("self" : Str) = some .local) (ll : scope.names.lookup ("line" : Str) = some .local) (lu : scope.names.lookup ("super" : Str) = some .globalImplicit) (lc : scope.names.lookup ("__class__" : Str) = some .free) (nc : ∀ x ∈ scope.names, x.2 ≠ .cell) (nf : ∀ x ∈ scope.names, x.2 = .free → x.1 = "__class__") (ar : Arg) (har : (params.posonlyargs ++ params.args).head? = some ar) (hself : ar.arg = "self")
    (hco : scope.isCoroutine = false) (hgen : scope.isGenerator = false)
    (hev : ∀ L, ∃ pl : Sem Bool, eval (.Call (.Attribute (.Call (.Name "super" p0) [] [] p1) "__init__" p2) [.JoinedStr (supJs t1 t2 j1 j2 q1 q2 q3 q4) p3] [] p4) (PySem.W.ksEnv qual scope L fI (.ref cda) cc) = (do
      let ov ← attributeBase (.Call (.Name "super" p0) [] [] p1) "__init__" (PySem.W.ksEnv qual scope L fI (.ref cda) cc) (eval (.Call (.Name "super" p0) [] [] p1) (PySem.W.ksEnv qual scope L fI (.ref cda) cc))
      standAt p2.atName
      let (f, first) ← holding [ov] (getMethod ov "__init__" pl)
      callWith p4 f first (backTo p4 (starEach [.JoinedStr (supJs t1 t2 j1 j2 q1 q2 q3 q4) p3] (PySem.W.ksEnv qual scope L fI (.ref cda) cc))) []))
    (hin : ∀ L, interactive (PySem.W.ksEnv qual scope L fI (.ref cda) cc) = false) (hsw : ∀ L, swapsWith (.Call (.Attribute (.Call (.Name "super" p0) [] [] p1) "__init__" p2) [.JoinedStr (supJs t1 t2 j1 j2 q1 q2 q3 q4) p3] [] p4) none p5.line (PySem.W.ksEnv qual scope L fI (.ref cda) cc) = pure false)
    (hsw2 : ∀ L, swapsWith (.Name "line" p8) (some (.Attribute (.Name "self" p6) "line" p7)) p9.line (PySem.W.ksEnv qual scope L fI (.ref cda) cc) = pure false)
    (hz : (Str.empty ++ t1).length ≤ sizeLine ∧ (Str.empty ++ t1 ++ toString (0 : Int)).length ≤ sizeLine ∧ (Str.empty ++ t1 ++ toString (0 : Int) ++ t2).length ≤ sizeLine) (k : Nat) :
    FnOk P w K mg base CX k fI (PySem.W.ksFn "__init__" qual params (supBody (supJs t1 t2 j1 j2 q1 q2 q3 q4) p0 p1 p2 p3 p4 p5 p6 p7 p8 p9) scope dV kV doc pm an (.ref cda) ct cc) ["self", "line"] (supSp C) := by
  refine ⟨fun vs H Q E ⟨e, i, hv, _⟩ => by rw [hv]; rfl, fun A outer s H args us vs Q E room e0 bnd rv sp => ?_⟩
  obtain ⟨e, i, rfl, he, rfl, hq⟩ := sp
  cases rv with
  | @cons _ u0 _ ur r1 r2 =>
    cases r2 with
    | @cons _ u1 _ ur2 r3 r4 =>
      cases r4
      obtain rfl : u0 = Value.ref e := r1
      exact sup_run S lk hcd hsup hk ls ll lu lc nc nf ar har hself hco hgen hev hin hsw hsw2 room e0 he r3 (by decide) hz bnd hq
end
/-! ### raise C(0) -/
def fRaiseL (c : Addr) (fe : FE) : FS := fun D δ μ => fe δ μ (fun p μ1 => match p with
  | .val (.int i) => i = 0 ∧ D.ex ⟨c, [("line", .int i)]⟩ δ μ1
  | _ => False) (fun x μ1 => D.ex x δ μ1)
theorem s_raiseL {X : Cx} {W : WX} {C fI : Addr} {fd : FuncData} {k : Nat} {x : Str} {arg : Expr} {fe : FE} {p cpos pos : Pos} (hc : X.calm = true) (tk : Takes X W) (T : OexC X.K C) (iC : PySem.W.findIn X.K (.ref C) "__init__" = some (some (.ref fI))) (tI : PySem.W.typeIn X.K (.ref fI) = some (.type "function"))
    (F1 : FnOk X.prog X.w X.K X.mg X.base (L2.CX X.prog X.w) k fI fd ["self", "line"] (supSp C)) (hr : Room (k + 1) X.A) (hb : Binds X.K fd ["self", "line"] []) (gC : X.mg x = some (.ref C)) (he : EF X W arg fe) (hg : Gl X x := by rfl) (hdb : (x == ("__debug__" : Str)) = false := by decide)
    (hst : starEach [arg] X.env = (false, eval arg X.env) :: starEach [] X.env := by rfl) : SF X W (.Raise (some (.Call (.Name x p) [arg] [] cpos)) none pos) (fRaiseL C fe) :=
  ps_imp (ps_raise hc tk (pmk_oex (dvs := []) (ds := []) T iC tI F1 hr hb .nil (fun _ _ _ _ _ _ _ h => by
    obtain ⟨_, _, _, _, _, _, _, _, _, _, _, _, z⟩ := h
    exact z.elim) hg gC (pa_cons he pa_nil hst) hdb hst)) fun D σ H ⟨ρ, μ, δ, D', ho, c, kk⟩ =>
    ⟨ρ, μ, δ, _, _, ho, c, fun q μ1 c1 ρ1 H1 v1 e1 r1 => by
      split at c1
      · rename_i i
        obtain ⟨h0, c2⟩ := c1
        have hv := pr_int r1
        subst hv
        refine ⟨by simp, fun a na => ⟨a, i, rfl, upd_same, h0, fun dx n ne => ?_⟩⟩
        have n1 : H1 dx = none := by rw [upd_ne ne] at n; exact n
        refine ⟨rfl, dx, [("line", .int i)], upd_same, by rw [upd_ne ne]; exact upd_same, n1, ?_⟩
        have eqH : upd (del (upd (upd (upd H1 a (exo a C none)) dx (exd dx [("line", V.int i)])) a (exo a C (some dx))) a) dx (.xd [("line", V.int i)]) = upd H1 dx (.xd [("line", V.int i)]) := by
          funext b
          by_cases hb : b = dx
          · rw [hb, upd_same, upd_same]
          · rw [upd_ne hb, upd_ne hb]
            by_cases ha : b = a
            · rw [ha, del_same, na]
            · rw [del_ne ha, upd_ne ha, upd_ne hb, upd_ne ha]
        rw [eqH]
        have ho1 := ho.after e1.drop
        have ev := e1.drop.transM (Evo.new (o := .xd [("line", V.int i)]) ho1.sm ho1.le n1).drop
        have h2 := ho.after ev
        exact kk.ex ⟨C, [("line", .int i)]⟩ δ μ1 c2 ρ1 σ _ (.ref C) (some dx) ((ho.evoB ev).less fun y => by omega) h2.ss ⟨rfl, .inr ⟨dx, _, rfl, upd_same, .int i, [], rfl, by simp only [Rep], rfl⟩⟩
      · exact c1.elim, kk.xout ho⟩
/-! ### try .. except C as n: return A if n.line == z else B -/
theorem fdr_int {K : PySem.W.Frag} {ρ : List Addr} {H : Hp} {f : Str} {l : Int} : ∀ {fs : List (Str × D)} {vs : List (Str × V)}, FdR K ρ H fs vs → fs.lookup f = some (.int l) → vs.lookup f = some (.int l)
  | [], vs, h, e => by cases e
  | (g, d) :: r, vs, h, e => by
    simp only [FdR] at h
    obtain ⟨v, t, rfl, hv, ht⟩ := h
    rw [List.lookup_cons] at e ⊢
    cases q : (f == g) with
    | true =>
      rw [q] at e
      simp only [Option.some.injEq] at e
      subst e
      simp only [Rep] at hv
      rw [hv]
    | false =>
      rw [q] at e
      exact fdr_int ht e
def fTryL (K : PySem.W.Frag) (c : Value) (C : Addr) (i : Nat) (z : Int) (dA dB : D) (fb : FS) : FS := fun D δ μ => fb { D with ex := fun x δ' μ' => match exm K c x with
  | some true => x.cls = C ∧ i < δ'.length ∧ ∃ l, x.fs.lookup ("line" : Str) = some (NT.D.int l) ∧ (if l = z then D.rt (.val dA) μ' else D.rt (.val dB) μ')
  | some false => D.ex x δ' μ'
  | none => False } δ μ
theorem s_tryL {X : Cx} {W : WX} {pos : Pos} {x n : Str} {c : Value} {C : Addr} {i j : Nat} {z : Int} {dA dB : D} {vA vB : V} {eA eB : Expr} {body : List Stmt} {np pos' p1 p2 p3 p4 p5 p6 : Pos} {fb : FS} (hs : X.stack = X.env :: X.outer) (hf : X.env.frame = some X.env.locals) (hN : X.N.Nodup) (hi : X.N[i]? = some n) (hln : X.env.kindOf n = some .local) (hc : Names X x c) (tk : Takes X W)
    (T : XfC X.K C) (hno : PySem.W.findIn X.K (.ref C) "line" = some none) (hA : ∀ X', PE X' eA (tC vA)) (hB : ∀ X', PE X' eB (tC vB)) (rA : ∀ ρ H, Rep X.K ρ H dA vA) (rB : ∀ ρ H, Rep X.K ρ H dB vB)
    (hb : ∀ (V : WX) (pn : List (Addr × Obj)) (xe : Value → Shared → Prop), Takes (X.tr pn xe) V → PassesOwn (model X.prog X.w) X.A X.env xe → BF (X.tr pn xe) V body fb)
    (hd : (n == ("__debug__" : Str)) = false := by decide) (hcd : (n == ("__classdict__" : Str)) = false := by decide)
    (hat : attributeBase (.Name n p1) "line" X.env (eval (.Name n p1) X.env) = eval (.Name n p1) X.env := by rfl) :
    SF X W (.Try body [.ExceptHandler (some (.Name x np)) (some n) [.Return (some (.IfExp (.Compare (.Attribute (.Name n p1) "line" p2) [.Eq] [.Constant (.int z) j p3] p4) eA eB p5)) p6] pos'] [] [] pos) (fTryL X.K c C i z dA dB fb) :=
  ps_imp (ps_try_as (i := i) (tb := fun V => liftS X.K V fb) (ts := fun a cls d => tRet (tIf (tTest (tOp rEq (tXf a cls d C "line" (tVar i)) (tC (.int z)))) (tC vA) (tC vB))) hs hf hN hi hln hc tk hb
    (fun a oe cls d pn hz hf' => pss_one (ps_ret (pe_ifExp (pt_cmpR op_eq (pe_xf T hno hz hf' (pe_var hi (.inl hln) hd hcd) hat) pe_int rfl) (hA _) (hB _))))) fun D σ H ⟨ρ, μ, δ, D', ho, q, k⟩ =>
    ⟨ρ, μ, δ, _, ho, q, ⟨k.nx, k.bk, k.ct, k.rt, fun y δ' μ' q ρ' σ' H' cls d e s r => by
      obtain ⟨rfl, r2⟩ := id r
      dsimp only at q
      split at q
      · rename_i h
        obtain ⟨hy, hil, l, hl, q⟩ := q
        refine ⟨true, h, fun _ a na => ?_, fun z => by cases z⟩
        obtain ⟨dd, vs, rfl, hdd, hvs⟩ : ∃ dd vs, d = some dd ∧ H' dd = some (.xd vs) ∧ FdR X.K ρ' H' y.fs vs := by
          rcases r2 with r2 | r2
          · rw [r2] at hl
            cases hl
          · exact r2
        have hle := s.len
        refine ⟨.ref a, by rw [List.getElem?_set_self (by omega)], rfl, by rw [hy], dd, vs, _, rfl, hdd, fdr_int hvs hl, rfl, _, rfl, ?_⟩
        by_cases hz : l = z
        · rw [if_pos hz] at q
          rw [if_pos (by rw [hz]; simp)]
          exact k.rt _ _ q _ _ _ (e.less fun _ => Nat.zero_le _) (rA _ _)
        · rw [if_neg hz] at q
          rw [if_neg (by simpa using hz)]
          exact k.rt _ _ q _ _ _ (e.less fun _ => Nat.zero_le _) (rB _ _)
      · rename_i h
        exact ⟨false, h, fun z => (by cases z), fun _ => k.ex y δ' μ' q ρ' σ' H' _ d e s r⟩
      · exact q.elim⟩⟩
/-- an own exception with a line's number, as the written part has it -/
structure RzL (P : Program) (w : World) (K : PySem.W.Frag) (mg : Str → Option Value) (base : Heap) (C : Addr) : Prop where
  ox : OexC K C
  ini : ∃ fI fd, PySem.W.findIn K (.ref C) "__init__" = some (some (.ref fI)) ∧ PySem.W.typeIn K (.ref fI) = some (.type "function") ∧ (∀ k, FnOk P w K mg base (L2.CX P w) k fI fd ["self", "line"] (supSp C)) ∧ Binds K fd ["self", "line"] []
theorem s_raiseZ {X : Cx} {W : WX} {C : Addr} {k : Nat} {x : Str} {arg : Expr} {fe : FE} {p cpos pos : Pos} (hc : X.calm = true) (tk : Takes X W) (Z : RzL X.prog X.w X.K X.mg X.base C) (hr : Room (k + 1) X.A) (gC : X.mg x = some (.ref C)) (he : EF X W arg fe) (hg : Gl X x := by rfl) (hdb : (x == ("__debug__" : Str)) = false := by decide)
    (hst : starEach [arg] X.env = (false, eval arg X.env) :: starEach [] X.env := by rfl) : SF X W (.Raise (some (.Call (.Name x p) [arg] [] cpos)) none pos) (fRaiseL C fe) := by
  obtain ⟨fI, fd, iC, tI, F1, hb⟩ := Z.ini
  exact s_raiseL hc tk Z.ox iC tI (F1 k) hr hb gC he hg hdb hst
end NT

/-! NT: a list != [], whatever the list holds. -/
namespace NT
open PySem PySem.Spec PyProof.Rows L2
def rNeE (K : PySem.W.Frag) : R2 := fun x y H Q => ∃ a b xs, x = .ref a ∧ y = .ref b ∧ SqL K H a xs ∧ SqL K H b [] ∧ Q (.bl (!xs.isEmpty)) H
theorem op_neE {X : Cx} (hu : X.A.units + 64 < cLine) : OpR X (compareOp .NotEq) (rNeE X.K) := by
  intro pins s σ H x y v u Q I rx ry h
  obtain ⟨a, b, xs, rfl, rfl, ha, hb, q⟩ := h
  cases xs with
  | nil => exact op_neD hu pins s σ H _ _ v u Q I rx ry ⟨.list [], .list [], .lst ha .nil, .lst hb .nil, rfl, rfl, q⟩
  | cons z zs =>
    cases (show v = Value.ref a from rx)
    cases (show u = Value.ref b from ry)
    obtain ⟨us, r1, p1, _⟩ := I.list ha
    obtain ⟨ws, r2, p2, _⟩ := I.list hb
    refine PySem.SeqAt.RcNeAt.lists_lengths p1.isList p2.isList ?_ (by omega) X.prog X.w X.xe _ ⟨.bl true, H, I, rfl, q⟩
    have l1 := r1.length
    have l2 := r2.length
    simp only [List.length_cons, List.length_nil] at l1 l2
    simp only [List.size_toArray, bne_iff_ne, ne_eq]
    omega
def neNilM : M2 := fun p q δ μ C => match lget δ μ p, lget δ μ q with
  | some ds, some [] => C (.val (.bl (!ds.isEmpty))) μ
  | _, _ => False
theorem br_neE {K : PySem.W.Frag} : Br2 K (rNeE K) neNilM := by
  intro ρ μ δ σ H p q x y C Q ho rp rq ap c hC
  unfold neNilM at c
  split at c
  · rename_i ds h1 h2
    obtain ⟨a, xs, rfl, sa, ra⟩ := lget_ok ho rp h1
    obtain ⟨b, ys, rfl, sb, rb⟩ := lget_ok ho rq h2
    have e : ys = [] := rb
    subst e
    refine ⟨a, b, xs, rfl, rfl, sa, sb, ?_⟩
    have le := reps_len ra
    have : xs.isEmpty = ds.isEmpty := by
      cases xs <;> cases ds <;> simp_all
    rw [this]
    exact hC _ _ c ρ H _ (ho.val fun _ => rfl) (by simp only [PR, Rep])
  · exact c.elim
section
variable {X : Cx} {W : WX} {pos : Pos} {a b : Expr} {fa fb : FE}
theorem e_neNil (hu : X.A.units + 64 < cLine) (ha : EF X W a fa) (hb : EF X W b fb) : EF X W (.Compare a [.NotEq] [b] pos) (eOp2 neNilM fa fb) := e_cmp (op_neE hu) br_neE ha hb (nomark b)
theorem t_neNil (hu : X.A.units + 64 < cLine) (ha : EF X W a fa) (hb : EF X W b fb) : TF X W (.Compare a [.NotEq] [b] pos) (tBool (eOp2 neNilM fa fb)) := t_cmp (op_neE hu) br_neE ha hb (nomark b)
end
/-! ### x = A if c else x: the list that stands in x already -/
def gNmS (i : Nat) : FG := fun p δ μ C _ => match p with
  | .bor a (.slot j) => (match δ[j]? with
    | some (some (.own b ds)) => (j = i ∧ b = a) ∧ C δ μ
    | _ => False)
  | p => C (δ.set i (some p)) μ
theorem g_nmS {X : Cx} {W : WX} {pos : Pos} {i : Nat} {x : Str} (hN : X.N.Nodup) (hi : X.N[i]? = some x := by rfl) (hx : Loc X.env.scope x := by first | exact Or.inl rfl | exact Or.inr rfl) (hf : X.fn x = true ∨ X.env.scope.names.lookup x = some .local := by first | exact .inl rfl | exact .inr rfl | assumption) : GF X W (.Name x pos) (gNmS i) :=
  pg_imp (pg_name hN hi hx hf) fun v σ H Q ⟨ρ, μ, δ, p, C, E, ho, r, one, c, hC, hX⟩ => by
    unfold gNmS at c
    split at c
    · rename_i a j
      split at c
      · rename_i b ds e
        obtain ⟨⟨rfl, rfl⟩, c⟩ := c
        obtain ⟨v', e1, r1⟩ := ho.ss.at_ j _ e
        have r2 : PR X.K ρ H (.own b ds) v := by
          have h1 : v = .ref b := r
          obtain ⟨h2, q⟩ := r1
          exact ⟨h1, q⟩
        have ed : δ.set j (some (P.own b ds)) = δ := List.ext_getElem? fun k => by
          by_cases hk : j = k
          · subst hk
            rw [List.getElem?_set_self (List.getElem?_eq_some_iff.mp e).1, e]
          · rw [List.getElem?_set_ne hk]
        have ss := ho.ss.put (i := j) r2
        rw [ed] at ss
        have z : footP1 (.bor b (.slot j)) ρ μ δ = footB ρ μ δ := by
          funext x
          show footP (.bor b (.slot j)) x + footB ρ μ δ x = _
          simp [footP]
        refine hC _ _ c ρ _ H ?_ ss
        rw [z]
        exact ho.reflS
      · exact c.elim
    · exact hC _ _ c ρ _ H (evo_put i ho.sm one) (ho.ss.put r)
end NT

/-! NT: x in (..), t.index(x). -/
namespace NT
open PySem PySem.Spec PyProof.Rows L2
def D.flat : D → Bool
  | .non => true
  | .bl _ => true
  | .int _ => true
  | .str _ => true
  | _ => false
theorem rep_flat {K : PySem.W.Frag} {ρ : List Addr} {H : Hp} {d : D} {v : V} (r : Rep K ρ H d v) (f : d.flat = true) : flatV v = true := by
  cases d <;> simp only [D.flat, Bool.false_eq_true] at f <;> (simp only [Rep] at r; subst r; rfl)
theorem rep_eqV {K : PySem.W.Frag} {ρ : List Addr} {H : Hp} {d e : D} {v w : V} (r : Rep K ρ H d v) (s : Rep K ρ H e w) (f : d.flat = true) (g : e.flat = true) : eqV v w = D.eqb d e := by
  cases d <;> simp only [D.flat, Bool.false_eq_true] at f <;> cases e <;> simp only [D.flat, Bool.false_eq_true] at g <;> (simp only [Rep] at r s; subst r; subst s; simp only [eqV, D.eqb])
def anyD (d : D) (ds : List D) : Bool := ds.any fun e => D.eqb e d
theorem reps_in {K : PySem.W.Frag} {ρ : List Addr} {H : Hp} {d : D} {v : V} (r : Rep K ρ H d v) (f : d.flat = true) : ∀ {ds : List D} {vs : List V}, Reps K ρ H ds vs → ds.all D.flat = true → vs.all flatV = true ∧ inV v vs = anyD d ds
  | [], vs, h, _ => by
    have e : vs = [] := h
    subst e
    exact ⟨rfl, rfl⟩
  | e :: ds, vs, h, g => by
    obtain ⟨w, t, rfl, hw, ht⟩ := (show ∃ w t, vs = w :: t ∧ Rep K ρ H e w ∧ Reps K ρ H ds t from h)
    rw [List.all_cons, Bool.and_eq_true] at g
    obtain ⟨i1, i2⟩ := reps_in r f ht g.2
    refine ⟨by rw [List.all_cons, rep_flat hw g.1, i1]; rfl, ?_⟩
    unfold inV anyD at i2 ⊢
    rw [List.any_cons, List.any_cons, i2, rep_eqV hw r g.1 f]
def inM (neg : Bool) : M2 := fun p q δ μ C => match p, q with
  | .val d, .val (.tup ds) => (d.flat = true ∧ ds.all D.flat = true) ∧ C (.val (.bl (if neg then !anyD d ds else anyD d ds))) μ
  | .val d, q => (match lget δ μ q with
    | some ds => (d.flat = true ∧ ds.all D.flat = true) ∧ C (.val (.bl (if neg then !anyD d ds else anyD d ds))) μ
    | none => False)
  | _, _ => False
theorem br_in {K : PySem.W.Frag} {neg : Bool} : Br2 K (rIn K neg) (inM neg) := by
  intro ρ μ δ σ H p q x y C Q ho rp rq ap c hC
  unfold inM at c
  split at c
  · rename_i d ds
    obtain ⟨⟨f, g⟩, c⟩ := c
    obtain ⟨a, xs, rfl, sa, ra⟩ := pr_tup rq
    obtain ⟨i1, i2⟩ := reps_in (d := d) (v := x) rp f ra g
    refine ⟨a, xs, rfl, .inr sa.seq, rep_flat rp f, i1, ?_⟩
    rw [i2]
    exact hC _ _ c ρ H _ (ho.val fun _ => rfl) (by simp only [PR, Rep])
  · rename_i q' d _
    split at c
    · rename_i ds h1
      obtain ⟨⟨f, g⟩, c⟩ := c
      obtain ⟨a, xs, rfl, sa, ra⟩ := lget_ok ho rq h1
      obtain ⟨i1, i2⟩ := reps_in (d := d) (v := x) rp f ra g
      refine ⟨a, xs, rfl, .inl sa, rep_flat rp f, i1, ?_⟩
      rw [i2]
      exact hC _ _ c ρ H _ (ho.val fun _ => rfl) (by simp only [PR, Rep])
    · exact c.elim
  · exact c.elim
section
variable {X : Cx} {W : WX} {pos : Pos} {a b : Expr} {fa fb : FE}
theorem e_in (ha : EF X W a fa) (hb : EF X W b fb) (hm : behindInMarks .In b = false := by rfl) : EF X W (.Compare a [.In] [b] pos) (eOp2 (inM false) fa fb) := e_cmp op_in_seq br_in ha hb hm
theorem e_nin (ha : EF X W a fa) (hb : EF X W b fb) (hm : behindInMarks .NotIn b = false := by rfl) : EF X W (.Compare a [.NotIn] [b] pos) (eOp2 (inM true) fa fb) := e_cmp op_notIn_seq br_in ha hb hm
theorem t_in (ha : EF X W a fa) (hb : EF X W b fb) (hm : behindInMarks .In b = false := by rfl) : TF X W (.Compare a [.In] [b] pos) (tBool (eOp2 (inM false) fa fb)) := t_cmp op_in_seq br_in ha hb hm
theorem t_nin (ha : EF X W a fa) (hb : EF X W b fb) (hm : behindInMarks .NotIn b = false := by rfl) : TF X W (.Compare a [.NotIn] [b] pos) (tBool (eOp2 (inM true) fa fb)) := t_cmp op_notIn_seq br_in ha hb hm
end
/-! ### a tuple of the top: T, T.index(x) -/
def TupK (K : PySem.W.Frag) (a : Addr) (xs : List V) : Prop := ∃ (o : Obj) (its : Array Value) (n : Nat), K.lookup a = some o ∧ o.cls = .type "tuple" ∧ o.dict = none ∧ o.data = .seq its n ∧ its.size ≤ sizeLine ∧ Vals xs its.toList
theorem TupK.seq {K : PySem.W.Frag} {a : Addr} {xs : List V} {H : Hp} (h : TupK K a xs) : SqU K H a xs := by
  obtain ⟨o, its, n, h1, h2, _, h4, h5, h6⟩ := h
  exact .inr ⟨o, its, n, h1, h2, h4, h5, h6⟩
def eTix (ys : List Str) (fe : FE) : FE := fun δ μ C E => fe δ μ (fun q μ1 => match q with
  | .val (.str z) => ∃ j : Nat, ys[j]? = some z ∧ (∀ m, m < j → ys[m]? ≠ some z) ∧ C (.val (.int (j : Int))) μ1
  | _ => False) E
section
variable {X : Cx} {W : WX} {pos : Pos}
theorem reps_strs {K : PySem.W.Frag} {ρ : List Addr} {H : Hp} : ∀ ys : List Str, Reps K ρ H (ys.map D.str) (ys.map V.str)
  | [] => rfl
  | y :: ys => ⟨.str y, ys.map V.str, rfl, rfl, reps_strs ys⟩
theorem e_tupG {x : Str} {a : Addr} {ys : List Str} (hg : Gl X x) (hm : X.mg x = some (.ref a)) (h : TupK X.K a (ys.map V.str)) (hd : (x == ("__debug__" : Str)) = false := by decide) : EF X W (.Name x pos) (eVal (.tup (ys.map D.str))) :=
  e_glob (v := .ref a) hg hm rfl (fun ρ H => by
    simp only [Rep]
    exact ⟨a, _, rfl, h.seq, reps_strs ys⟩) hd
theorem e_tix {x : Str} {a : Addr} {ys : List Str} {e : Expr} {fe : FE} {p apos cpos : Pos} (hg : Gl X x) (hm : X.mg x = some (.ref a)) (h : TupK X.K a (ys.map V.str)) (he : EF X W e fe) (hd : (x == ("__debug__" : Str)) = false := by decide) (hst : starEach [e] X.env = (false, eval e X.env) :: starEach [] X.env := by rfl)
    (hbase : attributeBase (.Name x p) "index" X.env (eval (.Name x p) X.env) = eval (.Name x p) X.env := by rfl)
    (hfew : ((backTo cpos (starEach [e] X.env)).all (fun x => !x.1) && (backToKw cpos (keywordEach [] X.env)).all (fun x => x.1.isSome)
      && decide (([e] : List Expr).length + ([] : List Keyword).length + (if ([] : List Keyword).isEmpty then 0 else 1) < 30)) = true := by rfl)
    (hline : (apos.endLine == cpos.line) = true := by rfl) : EF X W (.Call (.Attribute (.Name x p) "index" apos) [e] [] cpos) (eTix ys fe) :=
  pe_imp (pe_bm PySem.F.plainAttrs_tuple PySem.F.slot_tuple_index PySem.F.type_tuple_index mt_tup_index (pe_glob (v := .ref a) hg hm rfl hd) (pa_cons he pa_nil hst) hbase hfew hline hst rfl) fun σ H Q ⟨ρ, μ, δ, C, E, ho, c, hC, hX⟩ => by
    refine ⟨.inr (.inl ?_), ρ, μ, δ, _, E, ho, c, fun q μ1 c1 ρ1 H1 v e1 r1 => ?_, hX⟩
    · obtain ⟨o, its, n, h1, h2, h3, _⟩ := h
      exact ⟨rfl, o, h1, h2, h3⟩
    · split at c1
      · rename_i z
        obtain ⟨j, h1, h2, c2⟩ := c1
        have hv := pr_str r1
        subst hv
        exact ⟨a, ys, z, j, rfl, rfl, h.seq.seq, h1, h2, hC _ _ c2 ρ1 H1 _ (e1.less fun _ => Nat.zero_le _) (by simp only [PR, Rep])⟩
      · exact c1.elim
end
end NT

/-! nothingtwice_k70_shouts_on_the_wire: the walk. -/
namespace K70
open PySem PySem.Spec PyProof.Rows L2 NT
def top (i : Nat) : Stmt := PySem.Challenge.pw_nothingtwice_k70_shouts_on_the_wire.main.body.getD i (.Pass ⟨0, 0, 0, 0⟩)
abbrev s_frame_octets : Stmt := (top 6)
abbrev s_frame_length : Stmt := (top 7)
abbrev s_shout_octets : Stmt := (top 11)
abbrev s_whole_length : Stmt := (top 12)
abbrev s_parted_frames : Stmt := (top 13)
abbrev s_law_draw : Stmt := (top 15)
abbrev s_law_take : Stmt := (top 16)
abbrev s_law_same : Stmt := (top 17)
abbrev s_law_octets : Stmt := (top 18)
abbrev s_law_frame : Stmt := (top 19)
abbrev s_law_parted : Stmt := (top 20)
abbrev s_law_told : Stmt := (top 21)
abbrev s_law : Stmt := (top 22)
abbrev s_BadForm_init : Stmt := (inClass (top 2) 0)
theorem sc_frame_octets : FnScope ["frame", "stream", "kind", "octets", "head"] ["frame"] (defScope s_frame_octets) := ⟨rfl, rfl, rfl, by decide +kernel, rfl, by decide +kernel, by decide +kernel⟩
theorem sc_frame_length : FnScope ["octets", "kind"] ["octets"] (defScope s_frame_length) := ⟨rfl, rfl, rfl, by decide +kernel, rfl, by decide +kernel, by decide +kernel⟩
theorem sc_shout_octets : FnScope ["octets"] ["octets"] (defScope s_shout_octets) := ⟨rfl, rfl, rfl, by decide +kernel, rfl, by decide +kernel, by decide +kernel⟩
theorem sc_whole_length : FnScope ["octets"] ["octets"] (defScope s_whole_length) := ⟨rfl, rfl, rfl, by decide +kernel, rfl, by decide +kernel, by decide +kernel⟩
theorem sc_parted_frames : FnScope ["octets", "found", "length"] ["octets"] (defScope s_parted_frames) := ⟨rfl, rfl, rfl, by decide +kernel, rfl, by decide +kernel, by decide +kernel⟩
theorem sc_law_draw : FnScope ["script", "seed", "cell"] ["script"] (defScope s_law_draw) := ⟨rfl, rfl, rfl, by decide +kernel, rfl, by decide +kernel, by decide +kernel⟩
theorem sc_law_take : FnScope ["draw", "many", "found"] ["draw", "many"] (defScope s_law_take) := ⟨rfl, rfl, rfl, by decide +kernel, rfl, by decide +kernel, by decide +kernel⟩
theorem sc_law_same : FnScope ["actual", "due"] ["actual", "due"] (defScope s_law_same) := ⟨rfl, rfl, rfl, by decide +kernel, rfl, by decide +kernel, by decide +kernel⟩
theorem sc_law_octets : FnScope ["draw", "most", "k"] ["draw", "most"] (defScope s_law_octets) := ⟨rfl, rfl, rfl, by decide +kernel, rfl, by decide +kernel, by decide +kernel⟩
theorem sc_law_frame : FnScope ["draw", "kind", "stream", "octets"] ["draw"] (defScope s_law_frame) := ⟨rfl, rfl, rfl, by decide +kernel, rfl, by decide +kernel, by decide +kernel⟩
theorem sc_law_parted : FnScope ["octets", "found", "at", "turn", "head", "rest", "long"] ["octets"] (defScope s_law_parted) := ⟨rfl, rfl, rfl, by decide +kernel, rfl, by decide +kernel, by decide +kernel⟩
theorem sc_law_told : FnScope ["octets", "wrong"] ["octets"] (defScope s_law_told) := ⟨rfl, rfl, rfl, by decide +kernel, rfl, by decide +kernel, by decide +kernel⟩
theorem sc_law : FnScope ["script", "draw", "turn", "octets", "frames", "whole", "frame", "k", "at", "spoiled", "own", "told", "due", "back"] ["script"] (defScope s_law) := ⟨rfl, rfl, rfl, by decide +kernel, rfl, by decide +kernel, by decide +kernel⟩
/-- where the text's things stand -/
structure Ad where
  c_BadForm : Addr
  c_KINDS : Addr
  f_frame_octets : Addr
  f_frame_length : Addr
  f_shout_octets : Addr
  f_whole_length : Addr
  f_parted_frames : Addr
  f_law_draw : Addr
  f_law_take : Addr
  f_law_same : Addr
  f_law_octets : Addr
  f_law_frame : Addr
  f_law_parted : Addr
  f_law_told : Addr
  f_law : Addr
/-! ### what the defs do -/
def b_frame_octets (K : PySem.W.Frag) (a : Ad) : FS := fCons (fAsg (eVar 0) (gTp 3 (gsCons (gNm 1) (gsCons (gNm 2) (gsCons (gNm 3) (gsNil)))))) (fCons (fAsg (eTup (aCons (eOp2 addM (eOp2 mulM (eVar 1) (eVal (.int 4))) (eTix ["data", "end", "stop", "credit"] (eVar 2))) (aNil))) (gNm 4)) (fRet (eOp2 addM (eOp2 addM (eVar 4) (eIf (tBool (eOp2 (eqM false) (eVar 2) (eVal (.str "data")))) (eTup (aCons (eOp1 lenM (eVar 3)) (aNil))) (eTup (aNil)))) (eVar 3))))
def d_frame_octets (K : PySem.W.Frag) (a : Ad) : FN := fnDen 1 5 (b_frame_octets K a)
def b_frame_length (K : PySem.W.Frag) (a : Ad) : FS := fCons (fAsg (eOp2 ixM (eVal (.tup ((["data", "end", "stop", "credit"] : List Str).map D.str))) (eOp2 modM (eOp2 ixM (eVar 0) (eVal (.int 0))) (eVal (.int 4)))) (gNm 1)) (fCons (fIfS (tOr2 (tBool (eOp2 (cmpM fun i j => decide (j ≤ i)) (eOp2 ixM (eVar 0) (eVal (.int 0))) (eOp2 mulM (eVal (.int 4)) (eVal (.int 8))))) (tAnd2 (tBool (eOp2 (eqM false) (eVar 1) (eVal (.str "data")))) (tAnd2 (tBool (eOp2 (cmpM fun i j => decide (j < i)) (eOp1 lenM (eVar 0)) (eVal (.int 1)))) (tBool (eOp2 (eqM false) (eOp2 ixM (eVar 0) (eVal (.int 1))) (eVal (.int 0))))))) (fRaiseL a.c_BadForm (eVal (.int 0))) (fNil)) (fCons (fIfS (tBool (eOp2 (eqM false) (eVar 1) (eVal (.str "data")))) (fRet (eIf (tBool (eOp2 (cmpM fun i j => decide (j < i)) (eOp1 lenM (eVar 0)) (eVal (.int 1)))) (eOp2 addM (eVal (.int 2)) (eOp2 ixM (eVar 0) (eVal (.int 1)))) (eVal .non))) (fNil)) (fRet (eIf (tBool (eOp2 (eqM false) (eVar 1) (eVal (.str "credit")))) (eVal (.int 3)) (eVal (.int 1))))))
def d_frame_length (K : PySem.W.Frag) (a : Ad) : FN := fnDen 1 2 (b_frame_length K a)
def b_shout_octets (K : PySem.W.Frag) (a : Ad) : FS := fRet (eOp2 addM (eTup (aCons (eVal (.int 32)) (aCons (eOp1 lenM (eVar 0)) (aNil)))) (eVar 0))
def d_shout_octets (K : PySem.W.Frag) (a : Ad) : FN := fnDen 1 1 (b_shout_octets K a)
def b_whole_length (K : PySem.W.Frag) (a : Ad) : FS := fCons (fIfS (tBool (eOp2 (inM true) (eOp2 ixM (eVar 0) (eVal (.int 0))) (eTup (aCons (eVal (.int 32)) (aCons (eVal (.int 33)) (aNil)))))) (fRet (eCall (d_frame_length K a) (aCons (eVar 0) (aNil)))) (fNil)) (fCons (fIfS (tBool (eOp2 (cmpM fun i j => decide (i < j)) (eOp1 lenM (eVar 0)) (eVal (.int 2)))) (fRet (eVal .non)) (fNil)) (fCons (fIfS (tBool (eOp2 (eqM false) (eOp2 ixM (eVar 0) (eVal (.int 1))) (eVal (.int 0)))) (fRaiseL a.c_BadForm (eVal (.int 0))) (fNil)) (fRet (eIf (tBool (eOp2 (eqM false) (eOp2 ixM (eVar 0) (eVal (.int 0))) (eVal (.int 32)))) (eOp2 addM (eVal (.int 2)) (eOp2 ixM (eVar 0) (eVal (.int 1)))) (eVal (.int 2))))))
def d_whole_length (K : PySem.W.Frag) (a : Ad) : FN := fnDen 1 1 (b_whole_length K a)
def L_parted_frames_1 (K : PySem.W.Frag) (a : Ad) : FS := fWhile (tTru (eVar 0)) (fCons (fAsg (eCall (d_whole_length K a) (aCons (eVar 0) (aNil))) (gNm 2)) (fCons (fIfS (tOr2 (tBool (eOp2 (isnM false) (eVar 2) (eVal .non))) (tBool (eOp2 (cmpM fun i j => decide (i < j)) (eOp1 lenM (eVar 0)) (eVar 2)))) (fBreak) (fNil)) (fCons (fApp (eVar 1) (eSl (eVar 0) (oNone) (oSome (eVar 2)))) (fAsg (eSl (eVar 0) (oSome (eVar 2)) (oNone)) (gNm 0)))))
def b_parted_frames (K : PySem.W.Frag) (a : Ad) : FS := fCons (fAsg (eLst (aNil)) (gNm 1)) (fCons (L_parted_frames_1 K a) (fRet (eTup (aCons (eOp1 tupM (eVar 1)) (aCons (eVar 0) (aNil))))))
def d_parted_frames (K : PySem.W.Frag) (a : Ad) : FN := fnDen 1 3 (b_parted_frames K a)
def L_law_draw_1 (K : PySem.W.Frag) (a : Ad) : FS := fFor (iSeq (eVar 0)) (gNm 2) (fAsg (eOp2 modM (eOp1 toIntM (eOp2 addM (eOp2 addM (eOp2 mulM (eVar 1) (eVal (.int 48271))) (eOp2 modM (eOp1 absM (eOp1 toIntM (eVar 2))) (eVal (.int 65521)))) (eVal (.int 1)))) (eVal (.int 2147483647))) (gNm 1))
def b_law_draw (K : PySem.W.Frag) (a : Ad) : FS := fCons (fAsg (eVal (.int 7)) (gNm 1)) (fCons (L_law_draw_1 K a) (fRet (eNew (aCons (eLc (iSeq (eVar 0)) (pNm 2) (tYesD) (eOp1 absM (eOp1 toIntM (eVar 2))) [2]) (aCons (eOp1 negM (eVal (.int 1))) (aCons (eVal (.int 0)) (aCons (eVar 1) (aNil))))))))
def d_law_draw (K : PySem.W.Frag) (a : Ad) : FN := fnDen 1 3 (b_law_draw K a)
def b_law_take (K : PySem.W.Frag) (a : Ad) : FS := fCons (fIfS (tBool (eOp2 (eqM false) (eOp2 ixM (eVar 0) (eVal (.int 2))) (eVal (.int 0)))) (fCons (fAsg (eOp2 addM (eOp2 ixM (eVar 0) (eVal (.int 1))) (eVal (.int 1))) (gIx (eVar 0) (eVal (.int 1)))) (fCons (fIfS (tBool (eOp2 (cmpM fun i j => decide (i < j)) (eOp2 ixM (eVar 0) (eVal (.int 1))) (eOp1 lenM (eOp2 ixM (eVar 0) (eVal (.int 0)))))) (fAsg (eOp2 ixM (eOp2 ixM (eVar 0) (eVal (.int 0))) (eOp2 ixM (eVar 0) (eVal (.int 1)))) (gIx (eVar 0) (eVal (.int 2)))) (fNil)) (fIfS (tBool (eOp2 (eqM false) (eOp2 ixM (eVar 0) (eVal (.int 2))) (eVal (.int 0)))) (fCons (fAsg (eOp2 modM (eOp1 toIntM (eOp2 addM (eOp2 mulM (eOp2 ixM (eVar 0) (eVal (.int 3))) (eVal (.int 48271))) (eVal (.int 11)))) (eVal (.int 2147483647))) (gIx (eVar 0) (eVal (.int 3)))) (fAsg (eOp2 ixM (eVar 0) (eVal (.int 3))) (gIx (eVar 0) (eVal (.int 2))))) (fNil)))) (fNil)) (fCons (fAsg (eOp2 modM (eOp1 toIntM (eOp2 ixM (eVar 0) (eVal (.int 2)))) (eVar 1)) (gNm 2)) (fCons (fAsg (eOp2 fdivM (eOp2 ixM (eVar 0) (eVal (.int 2))) (eVar 1)) (gIx (eVar 0) (eVal (.int 2)))) (fRet (eVar 2))))
def d_law_take (K : PySem.W.Frag) (a : Ad) : FN := fnDen 2 3 (b_law_take K a)
def b_law_same (K : PySem.W.Frag) (a : Ad) : FS := fRet (eAnd2 (eOp2 (eqM false) (eVar 0) (eVar 1)) (eOp2 (eqM false) (eOp1 reprA (eVar 0)) (eOp1 reprA (eVar 1))))
def d_law_same (K : PySem.W.Frag) (a : Ad) : FN := fnDen 2 2 (b_law_same K a)
def b_law_octets (K : PySem.W.Frag) (a : Ad) : FS := fRet (eOp1 tupM (eLc (iRng1D (eOp2 addM (eVal (.int 1)) (eCall (d_law_take K a) (aCons (eVar 0) (aCons (eVar 1) (aNil)))))) (pNm 2) (tYesD) (eCall (d_law_take K a) (aCons (eVar 0) (aCons (eVal (.int 256)) (aNil)))) [2]))
def d_law_octets (K : PySem.W.Frag) (a : Ad) : FN := fnDen 2 3 (b_law_octets K a)
def b_law_frame (K : PySem.W.Frag) (a : Ad) : FS := fCons (fPar2 1 2 (lCons (eCall (d_law_take K a) (aCons (eVar 0) (aCons (eVal (.int 6)) (aNil)))) (lCons (eCall (d_law_take K a) (aCons (eVar 0) (aCons (eVal (.int 8)) (aNil)))) (lNil)))) (fCons (fIfS (tBool (eOp2 (eqM false) (eVar 1) (eVal (.int 0)))) (fCons (fAsg (eCall (d_law_octets K a) (aCons (eVar 0) (aCons (eVal (.int 20)) (aNil)))) (gNm 3)) (fRet (eOp2 addM (eTup (aCons (eVal (.int 32)) (aCons (eOp1 lenM (eVar 3)) (aNil)))) (eVar 3)))) (fNil)) (fCons (fIfS (tBool (eOp2 (eqM false) (eVar 1) (eVal (.int 1)))) (fRet (eTup (aCons (eVal (.int 33)) (aCons (eOp2 addM (eVal (.int 1)) (eCall (d_law_take K a) (aCons (eVar 0) (aCons (eVal (.int 255)) (aNil))))) (aNil))))) (fNil)) (fCons (fIfS (tBool (eOp2 (eqM false) (eVar 1) (eVal (.int 2)))) (fCons (fAsg (eCall (d_law_octets K a) (aCons (eVar 0) (aCons (eVal (.int 20)) (aNil)))) (gNm 3)) (fRet (eOp2 addM (eTup (aCons (eOp2 mulM (eVal (.int 4)) (eVar 2)) (aCons (eOp1 lenM (eVar 3)) (aNil)))) (eVar 3)))) (fNil)) (fRet (eIf (tBool (eOp2 (eqM false) (eVar 1) (eVal (.int 3)))) (eTup (aCons (eOp2 addM (eOp2 mulM (eVal (.int 4)) (eVar 2)) (eVal (.int 1))) (aNil))) (eIf (tBool (eOp2 (eqM false) (eVar 1) (eVal (.int 4)))) (eTup (aCons (eOp2 addM (eOp2 mulM (eVal (.int 4)) (eVar 2)) (eVal (.int 2))) (aNil))) (eTup (aCons (eOp2 addM (eOp2 mulM (eVal (.int 4)) (eVar 2)) (eVal (.int 3))) (aCons (eCall (d_law_take K a) (aCons (eVar 0) (aCons (eVal (.int 256)) (aNil)))) (aCons (eCall (d_law_take K a) (aCons (eVar 0) (aCons (eVal (.int 256)) (aNil)))) (aNil)))))))))))
def d_law_frame (K : PySem.W.Frag) (a : Ad) : FN := fnDen 1 4 (b_law_frame K a)
def L_law_parted_1 (K : PySem.W.Frag) (a : Ad) : FS := fFor (iRng1D (eOp2 addM (eOp1 lenM (eVar 0)) (eVal (.int 1)))) (gNm 3) (fCons (fIfS (tBool (eOp2 (eqM false) (eVar 2) (eOp1 lenM (eVar 0)))) (fRet (eTup (aCons (eVar 1) (aCons (eTup (aNil)) (aNil))))) (fNil)) (fCons (fPar2 4 5 (lCons (eOp2 ixM (eVar 0) (eVar 2)) (lCons (eSl (eVar 0) (oSome (eOp2 addM (eVar 2) (eVal (.int 1)))) (oNone)) (lNil)))) (fCons (fIfS (tOr2 (tBool (eOp2 (cmpM fun i j => decide (j < i)) (eVar 4) (eVal (.int 33)))) (tAnd2 (tOr2 (tBool (eOp2 (eqM false) (eVar 4) (eVal (.int 33)))) (tOr2 (tBool (eOp2 (eqM false) (eVar 4) (eVal (.int 32)))) (tBool (eOp2 (eqM false) (eOp2 modM (eOp1 toIntM (eVar 4)) (eVal (.int 4))) (eVal (.int 0)))))) (tAnd2 (tBool (eOp2 (eqM true) (eVar 5) (eTup (aNil)))) (tBool (eOp2 (eqM false) (eOp2 ixM (eVar 5) (eVal (.int 0))) (eVal (.int 0))))))) (fRet (eVal .non)) (fNil)) (fCons (fAsg (eIf (tBool (eOp2 (eqM false) (eVar 4) (eVal (.int 33)))) (eVal (.int 2)) (eIf (tAnd2 (tBool (eOp2 (cmpM fun i j => decide (i < j)) (eVar 4) (eVal (.int 32)))) (tBool (eOp2 (inM false) (eOp2 modM (eOp1 toIntM (eVar 4)) (eVal (.int 4))) (eTup (aCons (eVal (.int 1)) (aCons (eVal (.int 2)) (aNil))))))) (eVal (.int 1)) (eIf (tAnd2 (tBool (eOp2 (cmpM fun i j => decide (i < j)) (eVar 4) (eVal (.int 32)))) (tBool (eOp2 (eqM false) (eOp2 modM (eOp1 toIntM (eVar 4)) (eVal (.int 4))) (eVal (.int 3))))) (eVal (.int 3)) (eIf (tBool (eOp2 (eqM true) (eVar 5) (eTup (aNil)))) (eOp2 addM (eVal (.int 2)) (eOp2 ixM (eVar 5) (eVal (.int 0)))) (eVal (.int 0)))))) (gNm 6)) (fCons (fIfS (tOr2 (tBool (eOp2 (eqM false) (eVar 6) (eVal (.int 0)))) (tBool (eOp2 (cmpM fun i j => decide (j < i)) (eOp2 addM (eVar 2) (eVar 6)) (eOp1 lenM (eVar 0))))) (fRet (eTup (aCons (eVar 1) (aCons (eSl (eVar 0) (oSome (eVar 2)) (oNone)) (aNil))))) (fNil)) (fPar2 1 2 (lCons (eOp2 addM (eVar 1) (eTup (aCons (eSl (eVar 0) (oSome (eVar 2)) (oSome (eOp2 addM (eVar 2) (eVar 6)))) (aNil)))) (lCons (eOp2 addM (eVar 2) (eVar 6)) (lNil)))))))))
def b_law_parted (K : PySem.W.Frag) (a : Ad) : FS := fCons (fPar 2 (lCons (eTup (aNil)) (lCons (eVal (.int 0)) (lNil))) (gsCons (gNm 1) (gsCons (gNm 2) (gsNil)))) (fCons (L_law_parted_1 K a) (fRet (eVal .non)))
def d_law_parted (K : PySem.W.Frag) (a : Ad) : FN := fnDen 1 7 (b_law_parted K a)
def b_law_told (K : PySem.W.Frag) (a : Ad) : FS := fTryL K (.ref a.c_BadForm) a.c_BadForm 1 0 (.non) (.str "?") (fRet (eCall (d_parted_frames K a) (aCons (eVar 0) (aNil))))
def d_law_told (K : PySem.W.Frag) (a : Ad) : FN := fnDen 1 2 (b_law_told K a)
def L_law_1 (K : PySem.W.Frag) (a : Ad) : FS := fFor (iSeq (eVar 4)) (gNm 6) (fAsg (eOp2 addM (eVar 5) (eVar 6)) (gNm 5))
def L_law_2 (K : PySem.W.Frag) (a : Ad) : FS := fFor (iSeq (eOp2 addM (eOp2 ixM (eVar 11) (eVal (.int 0))) (eTup (aCons (eOp2 ixM (eVar 11) (eVal (.int 1))) (aNil))))) (gNm 6) (fAsg (eOp2 addM (eVar 13) (eVar 6)) (gNm 13))
def L_law_3 (K : PySem.W.Frag) (a : Ad) : FS := fFor (iSeq (eTup (aCons (eSl (eVar 5) (oNone) (oSome (eVar 8))) (aCons (eVar 9) (aCons (eOp2 addM (eVar 5) (eTup (aCons (eVal (.int 32)) (aNil)))) (aCons (eOp2 addM (eVar 5) (eTup (aCons (eVal (.int 33)) (aNil)))) (aCons (eOp2 addM (eVar 5) (eTup (aCons (eVal (.int 33)) (aCons (eVal (.int 0)) (aNil))))) (aCons (eOp2 addM (eVar 5) (eTup (aCons (eVal (.int 32)) (aCons (eVal (.int 0)) (aNil))))) (aCons (eSl (eVar 9) (oNone) (oSome (eOp2 addM (eVar 8) (eVal (.int 3))))) (aNil)))))))))) (gNm 10) (fCons (fPar2 11 12 (lCons (eCall (d_law_told K a) (aCons (eVar 10) (aNil))) (lCons (eCall (d_law_parted K a) (aCons (eVar 10) (aNil))) (lNil)))) (fCons (fIfS (tNot1 (tTru (eCall (d_law_same K a) (aCons (eVar 11) (aCons (eVar 12) (aNil)))))) (fRet (eVal (.bl false))) (fNil)) (fIfS (tBool (eOp2 (isnM true) (eVar 12) (eVal .non))) (fCons (fAsg (eTup (aNil)) (gNm 13)) (fCons (L_law_2 K a) (fIfS (tBool (eOp2 (eqM true) (eVar 13) (eVar 10))) (fRet (eVal (.bl false))) (fNil)))) (fNil))))
def L_law_4 (K : PySem.W.Frag) (a : Ad) : FS := fFor (iRng1D (eVal (.int 6))) (gNm 7) (fCons (fAsg (eCall (d_law_take K a) (aCons (eVar 1) (aCons (eOp2 addM (eOp1 lenM (eVar 5)) (eVal (.int 1))) (aNil)))) (gNm 8)) (fCons (fAsg (eOp2 addM (eOp2 addM (eSl (eVar 5) (oNone) (oSome (eVar 8))) (eTup (aCons (eOp2 ixM (eLst (aCons (eOp2 addM (eVal (.int 34)) (eCall (d_law_take K a) (aCons (eVar 1) (aCons (eVal (.int 200)) (aNil))))) (aCons (eVal (.int 0)) (aCons (eVal (.int 32)) (aCons (eVal (.int 33)) (aCons (eCall (d_law_take K a) (aCons (eVar 1) (aCons (eVal (.int 256)) (aNil)))) (aNil))))))) (eCall (d_law_take K a) (aCons (eVar 1) (aCons (eVal (.int 5)) (aNil))))) (aNil)))) (eSl (eVar 5) (oSome (eOp2 addM (eVar 8) (eVal (.int 1)))) (oNone))) (gNm 9)) (L_law_3 K a)))
def L_law_5 (K : PySem.W.Frag) (a : Ad) : FS := fFor (iRng1D (eVal (.int 4))) (gNm 2) (fCons (fAsg (eCall (d_law_octets K a) (aCons (eVar 1) (aCons (eVal (.int 254)) (aNil)))) (gNm 3)) (fCons (fIfS (tNot1 (tTru (eCall (d_law_same K a) (aCons (eCall (d_shout_octets K a) (aCons (eVar 3) (aNil))) (aCons (eOp2 addM (eTup (aCons (eVal (.int 32)) (aCons (eOp1 lenM (eVar 3)) (aNil)))) (eVar 3)) (aNil)))))) (fRet (eVal (.bl false))) (fNil)) (fCons (fAsg (eOp1 tupM (eLc (iRng1D (eCall (d_law_take K a) (aCons (eVar 1) (aCons (eVal (.int 6)) (aNil))))) (pNm 7) (tYesD) (eCall (d_law_frame K a) (aCons (eVar 1) (aNil))) [7])) (gNm 4)) (fCons (fAsg (eTup (aNil)) (gNm 5)) (fCons (L_law_1 K a) (fCons (fIfS (tOr2 (tNot1 (tTru (eCall (d_law_same K a) (aCons (eCall (d_parted_frames K a) (aCons (eVar 5) (aNil))) (aCons (eTup (aCons (eVar 4) (aCons (eTup (aNil)) (aNil)))) (aNil)))))) (tBool (eOp2 (eqM true) (eCall (d_frame_octets K a) (aCons (eTup (aCons (eVal (.int 2)) (aCons (eVal (.str "data")) (aCons (eVar 3) (aNil))))) (aNil))) (eOp2 addM (eTup (aCons (eVal (.int 8)) (aCons (eOp1 lenM (eVar 3)) (aNil)))) (eVar 3))))) (fRet (eVal (.bl false))) (fNil)) (L_law_4 K a)))))))
def b_law (K : PySem.W.Frag) (a : Ad) : FS := fCons (fAsg (eCall (d_law_draw K a) (aCons (eVar 0) (aNil))) (gNm 1)) (fCons (L_law_5 K a) (fRet (eVal (.bl true))))
def d_law (K : PySem.W.Frag) (a : Ad) : FN := fnDen 1 14 (b_law K a)
/-- what the top has written -/
structure Tx (K : PySem.W.Frag) (mg : Str → Option Value) (a : Ad) : Prop where
  n_abs : mg "abs" = none
  n_int : mg "int" = none
  n_len : mg "len" = none
  n_range : mg "range" = none
  n_repr : mg "repr" = none
  n_super : mg "super" = none
  n_tuple : mg "tuple" = none
  g_frame_octets : mg "frame_octets" = some (.ref a.f_frame_octets)
  g_frame_length : mg "frame_length" = some (.ref a.f_frame_length)
  g_shout_octets : mg "shout_octets" = some (.ref a.f_shout_octets)
  g_whole_length : mg "whole_length" = some (.ref a.f_whole_length)
  g_parted_frames : mg "parted_frames" = some (.ref a.f_parted_frames)
  g__law_draw : mg "_law_draw" = some (.ref a.f_law_draw)
  g__law_take : mg "_law_take" = some (.ref a.f_law_take)
  g__law_same : mg "_law_same" = some (.ref a.f_law_same)
  g__law_octets : mg "_law_octets" = some (.ref a.f_law_octets)
  g__law_frame : mg "_law_frame" = some (.ref a.f_law_frame)
  g__law_parted : mg "_law_parted" = some (.ref a.f_law_parted)
  g__law_told : mg "_law_told" = some (.ref a.f_law_told)
  g_law : mg "law" = some (.ref a.f_law)
  g_BadForm : mg "BadForm" = some (.ref a.c_BadForm)
  k_BadForm : PySem.W.keepIn K (.ref a.c_BadForm) = true
  xf_BadForm : XfC K a.c_BadForm
  nl_BadForm : PySem.W.findIn K (.ref a.c_BadForm) "line" = some none
  b_BadForm : PySem.W.subIn K (.ref a.c_BadForm) (.type "BaseException") = some true
  t_BadForm : PySem.W.typeIn K (.ref a.c_BadForm) = some (.type "type")
  e_BadForm_BadForm : PySem.W.exmOne K (.ref a.c_BadForm) (.ref a.c_BadForm) = some true
  v_KINDS : mg "KINDS" = some (.ref a.c_KINDS)
  u_KINDS : TupK K a.c_KINDS ((["data", "end", "stop", "credit"] : List Str).map V.str)
  v_HEARD : ∃ t, mg "HEARD" = some (.int 33 t)
  v_MAX_STREAMS : ∃ t, mg "MAX_STREAMS" = some (.int 8 t)
  v_SHOUT : ∃ t, mg "SHOUT" = some (.int 32 t)
section
variable {P : Program} {w : World} {K : PySem.W.Frag} {mg : Str → Option Value} {base : Heap} {a : Ad}
theorem rz_BadForm {C fI cc cda : Addr} {an od : Option Addr} {osl : Array (Option Value)} {oc kV doc pm ct : Value} (S : SupC P K C fI cc cda)
    (lk : K.lookup fI = some ⟨oc, od, .func (PySem.W.ksFn "__init__" "BadForm.__init__" (defArgs s_BadForm_init) (defBody s_BadForm_init) (defScope s_BadForm_init) .none kV doc pm an (.ref cda) ct cc), osl⟩) (hcd : PySem.W.codeIn K (.ref cda) "BadForm.__init__" = true)
    (hsup : mg "super" = none) (iC : PySem.W.findIn K (.ref C) "__init__" = some (some (.ref fI))) (tI : PySem.W.typeIn K (.ref fI) = some (.type "function")) : RzL P w K mg base C :=
  ⟨S.ox, fI, _, iC, tI, fun k => sup_ok S lk hcd hsup rfl rfl rfl rfl rfl (by decide +kernel) (by decide +kernel) _ rfl rfl rfl rfl (fun _ => ⟨_, rfl⟩) (fun _ => rfl) (fun _ => rfl) (fun _ => rfl) (by decide +kernel) k, .all fun us hl => match us, hl with | [_, _], _ => rfl⟩
theorem ok_frame_octets (T : Tx K mg a) {fd : FuncData} (Fu : Fun K "frame_octets" "frame_octets" s_frame_octets a.f_frame_octets fd)   : FnG P w K mg base 1 a.f_frame_octets (d_frame_octets K a) := by
  have Sc := sc_frame_octets
  refine fnG_by (k := 0) Fu Sc (Fu.binds (ps := ["frame"]) fun _ _ _ _ _ _ us hl => match us, hl with | [_], _ => rfl) (by decide) fun X W cd A outer s H E hX hW room gu tk hp => ?_
  subst hX hW
  exact (b_cons (s_asg (e_var 0) (g_tp rfl (gs_cons (g_nm Sc.nd) (gs_cons (g_nm Sc.nd) (gs_cons (g_nm Sc.nd) (gs_nil)))))) (b_cons (s_asg (e_tup (a_cons (e_add (e_mul (e_var 1) (e_int)) (e_tix (ys := ["data", "end", "stop", "credit"]) rfl T.v_KINDS T.u_KINDS (e_var 2))) (a_nil))) (g_nm Sc.nd)) (b_one (s_ret (e_add (e_add (e_var 4) (e_if (t_eq (room.units) (e_var 2) (e_str)) (e_tup (a_cons (e_len T.n_len (e_var 3)) (a_nil))) (e_tup (a_nil)))) (e_var 3))))))
theorem ok_frame_length (T : Tx K mg a) {fd : FuncData} (Fu : Fun K "frame_length" "frame_length" s_frame_length a.f_frame_length fd)  (Z_BadForm : RzL P w K mg base a.c_BadForm) : FnG P w K mg base 2 a.f_frame_length (d_frame_length K a) := by
  have Sc := sc_frame_length
  refine fnG_by (k := 1) Fu Sc (Fu.binds (ps := ["octets"]) fun _ _ _ _ _ _ us hl => match us, hl with | [_], _ => rfl) (by decide) fun X W cd A outer s H E hX hW room gu tk hp => ?_
  subst hX hW
  exact (b_cons (s_asg (e_ix (e_tupG (ys := ["data", "end", "stop", "credit"]) rfl T.v_KINDS T.u_KINDS) (e_mod (e_ix (e_var 0) (e_int)) (e_int))) (g_nm Sc.nd)) (b_cons (s_if (t_w (w_or (t_ge (e_ix (e_var 0) (e_int)) (e_mul (e_int) (e_glob (d := .int 8) (v := .int 8) rfl T.v_MAX_STREAMS.choose_spec ⟨_, rfl⟩ (fun _ _ => rfl)))) (w_or1 (t_w (w_and (t_eq (room.units) (e_var 1) (e_str)) (w_and (t_gt (e_len T.n_len (e_var 0)) (e_int)) (w_and1 (t_eq (room.units) (e_ix (e_var 0) (e_int)) (e_int))))))))) (b_one (s_raiseZ (k := 0) rfl tk Z_BadForm room T.g_BadForm (e_int))) (b_nil)) (b_cons (s_if (t_eq (room.units) (e_var 1) (e_str)) (b_one (s_ret (e_if (t_gt (e_len T.n_len (e_var 0)) (e_int)) (e_add (e_int) (e_ix (e_var 0) (e_int))) (e_non)))) (b_nil)) (b_one (s_ret (e_if (t_eq (room.units) (e_var 1) (e_str)) (e_int) (e_int)))))))
theorem ok_shout_octets (T : Tx K mg a) {fd : FuncData} (Fu : Fun K "shout_octets" "shout_octets" s_shout_octets a.f_shout_octets fd)   : FnG P w K mg base 1 a.f_shout_octets (d_shout_octets K a) := by
  have Sc := sc_shout_octets
  refine fnG_by (k := 0) Fu Sc (Fu.binds (ps := ["octets"]) fun _ _ _ _ _ _ us hl => match us, hl with | [_], _ => rfl) (by decide) fun X W cd A outer s H E hX hW room gu tk hp => ?_
  subst hX hW
  exact (b_one (s_ret (e_add (e_tup (a_cons (e_glob (d := .int 32) (v := .int 32) rfl T.v_SHOUT.choose_spec ⟨_, rfl⟩ (fun _ _ => rfl)) (a_cons (e_len T.n_len (e_var 0)) (a_nil)))) (e_var 0))))
theorem ok_whole_length (T : Tx K mg a) {fd : FuncData} (Fu : Fun K "whole_length" "whole_length" s_whole_length a.f_whole_length fd) (F_frame_length : FnG P w K mg base 2 a.f_frame_length (d_frame_length K a)) (Z_BadForm : RzL P w K mg base a.c_BadForm) : FnG P w K mg base 3 a.f_whole_length (d_whole_length K a) := by
  have Sc := sc_whole_length
  refine fnG_by (k := 2) Fu Sc (Fu.binds (ps := ["octets"]) fun _ _ _ _ _ _ us hl => match us, hl with | [_], _ => rfl) (by decide) fun X W cd A outer s H E hX hW room gu tk hp => ?_
  subst hX hW
  exact (b_cons (s_if (t_nin (e_ix (e_var 0) (e_int)) (e_tup (a_cons (e_glob (d := .int 32) (v := .int 32) rfl T.v_SHOUT.choose_spec ⟨_, rfl⟩ (fun _ _ => rfl)) (a_cons (e_glob (d := .int 33) (v := .int 33) rfl T.v_HEARD.choose_spec ⟨_, rfl⟩ (fun _ _ => rfl)) (a_nil))))) (b_one (s_ret (e_call (F_frame_length.mono (by decide)) room gu tk T.g_frame_length (a_cons (e_var 0) (a_nil))))) (b_nil)) (b_cons (s_if (t_lt (e_len T.n_len (e_var 0)) (e_int)) (b_one (s_ret (e_non))) (b_nil)) (b_cons (s_if (t_eq (room.units) (e_ix (e_var 0) (e_int)) (e_int)) (b_one (s_raiseZ (k := 1) rfl tk Z_BadForm room T.g_BadForm (e_int))) (b_nil)) (b_one (s_ret (e_if (t_eq (room.units) (e_ix (e_var 0) (e_int)) (e_glob (d := .int 32) (v := .int 32) rfl T.v_SHOUT.choose_spec ⟨_, rfl⟩ (fun _ _ => rfl))) (e_add (e_int) (e_ix (e_var 0) (e_int))) (e_int)))))))
theorem ok_parted_frames (T : Tx K mg a) {fd : FuncData} (Fu : Fun K "parted_frames" "parted_frames" s_parted_frames a.f_parted_frames fd) (F_whole_length : FnG P w K mg base 3 a.f_whole_length (d_whole_length K a))  : FnG P w K mg base 4 a.f_parted_frames (d_parted_frames K a) := by
  have Sc := sc_parted_frames
  refine fnG_by (k := 3) Fu Sc (Fu.binds (ps := ["octets"]) fun _ _ _ _ _ _ us hl => match us, hl with | [_], _ => rfl) (by decide) fun X W cd A outer s H E hX hW room gu tk hp => ?_
  subst hX hW
  exact (b_cons (s_asg (e_lst (a_nil)) (g_nm Sc.nd)) (b_cons (s_while hp (t_tru (e_var 0)) (b_cons (s_asg (e_call (F_whole_length.mono (by decide)) room gu tk T.g_whole_length (a_cons (e_var 0) (a_nil))) (g_nm Sc.nd)) (b_cons (s_if (t_w (w_or (t_isn (e_var 2) (e_non)) (w_or1 (t_lt (e_len T.n_len (e_var 0)) (e_var 2))))) (b_one (s_break)) (b_nil)) (b_cons (s_app (e_var 1) (e_sl (e_var 0) (o_none) (o_some (e_var 2)))) (b_one (s_asg (e_sl (e_var 0) (o_some (e_var 2)) (o_none)) (g_nm Sc.nd))))))) (b_one (s_ret (e_tup (a_cons (e_tuple T.n_tuple (e_var 1)) (a_cons (e_var 0) (a_nil))))))))
theorem ok_law_draw (T : Tx K mg a) {fd : FuncData} (Fu : Fun K "_law_draw" "_law_draw" s_law_draw a.f_law_draw fd)   : FnG P w K mg base 1 a.f_law_draw (d_law_draw K a) := by
  have Sc := sc_law_draw
  refine fnG_by (k := 0) Fu Sc (Fu.binds (ps := ["script"]) fun _ _ _ _ _ _ us hl => match us, hl with | [_], _ => rfl) (by decide) fun X W cd A outer s H E hX hW room gu tk hp => ?_
  subst hX hW
  exact (b_cons (s_asg (e_int) (g_nm Sc.nd)) (b_cons (s_for hp rfl (i_seq (e_var 0)) (g_nm Sc.nd) (b_one (s_asg (e_mod (e_toInt T.n_int (e_add (e_add (e_mul (e_var 1) (e_int)) (e_mod (e_abs T.n_abs (e_toInt T.n_int (e_var 2))) (e_int))) (e_int))) (e_int)) (g_nm Sc.nd)))) (b_one (s_ret (e_new (a_cons (e_lc (own := [("cell", 2)]) rfl Sc.nd (i_seq (e_var 0)) (blkOk_by (N := ["script", "seed", "cell"]) (sc := defScope s_law_draw) (by decide +kernel)) (by decide) (fun _ _ _ _ _ => p_nm Sc.nd) (fun _ _ _ _ _ => ts_nil) (fun _ _ _ _ _ => e_abs T.n_abs (e_toInt T.n_int (e_var 2)))) (a_cons (e_neg (e_int)) (a_cons (e_int) (a_cons (e_var 1) (a_nil))))))))))
theorem ok_law_take (T : Tx K mg a) {fd : FuncData} (Fu : Fun K "_law_take" "_law_take" s_law_take a.f_law_take fd)   : FnG P w K mg base 1 a.f_law_take (d_law_take K a) := by
  have Sc := sc_law_take
  refine fnG_by (k := 0) Fu Sc (Fu.binds (ps := ["draw", "many"]) fun _ _ _ _ _ _ us hl => match us, hl with | [_, _], _ => rfl) (by decide) fun X W cd A outer s H E hX hW room gu tk hp => ?_
  subst hX hW
  exact (b_cons (s_if (t_eq (room.units) (e_ix (e_var 0) (e_int)) (e_int)) (b_cons (s_asg (e_add (e_ix (e_var 0) (e_int)) (e_int)) (g_ix (e_var 0) (e_int))) (b_cons (s_if (t_lt (e_ix (e_var 0) (e_int)) (e_len T.n_len (e_ix (e_var 0) (e_int)))) (b_one (s_asg (e_ix (e_ix (e_var 0) (e_int)) (e_ix (e_var 0) (e_int))) (g_ix (e_var 0) (e_int)))) (b_nil)) (b_one (s_if (t_eq (room.units) (e_ix (e_var 0) (e_int)) (e_int)) (b_cons (s_asg (e_mod (e_toInt T.n_int (e_add (e_mul (e_ix (e_var 0) (e_int)) (e_int)) (e_int))) (e_int)) (g_ix (e_var 0) (e_int))) (b_one (s_asg (e_ix (e_var 0) (e_int)) (g_ix (e_var 0) (e_int))))) (b_nil))))) (b_nil)) (b_cons (s_asg (e_mod (e_toInt T.n_int (e_ix (e_var 0) (e_int))) (e_var 1)) (g_nm Sc.nd)) (b_cons (s_asg (e_fdiv (e_ix (e_var 0) (e_int)) (e_var 1)) (g_ix (e_var 0) (e_int))) (b_one (s_ret (e_var 2))))))
theorem ok_law_same (T : Tx K mg a) {fd : FuncData} (Fu : Fun K "_law_same" "_law_same" s_law_same a.f_law_same fd)   : FnG P w K mg base 1 a.f_law_same (d_law_same K a) := by
  have Sc := sc_law_same
  refine fnG_by (k := 0) Fu Sc (Fu.binds (ps := ["actual", "due"]) fun _ _ _ _ _ _ us hl => match us, hl with | [_, _], _ => rfl) (by decide) fun X W cd A outer s H E hX hW room gu tk hp => ?_
  subst hX hW
  exact (b_one (s_ret (e_and (e_eq (room.units) (e_var 0) (e_var 1)) (e_one (e_eq (room.units) (e_reprA (room.units) gu T.n_repr (e_var 0)) (e_reprA (room.units) gu T.n_repr (e_var 1)))))))
theorem ok_law_octets (T : Tx K mg a) {fd : FuncData} (Fu : Fun K "_law_octets" "_law_octets" s_law_octets a.f_law_octets fd) (F_law_take : FnG P w K mg base 1 a.f_law_take (d_law_take K a))  : FnG P w K mg base 2 a.f_law_octets (d_law_octets K a) := by
  have Sc := sc_law_octets
  refine fnG_by (k := 1) Fu Sc (Fu.binds (ps := ["draw", "most"]) fun _ _ _ _ _ _ us hl => match us, hl with | [_, _], _ => rfl) (by decide) fun X W cd A outer s H E hX hW room gu tk hp => ?_
  subst hX hW
  exact (b_one (s_ret (e_tuple T.n_tuple (e_lc (own := [("k", 2)]) rfl Sc.nd (i_range1 T.n_range (e_add (e_int) (e_call (F_law_take.mono (by decide)) room gu tk T.g__law_take (a_cons (e_var 0) (a_cons (e_var 1) (a_nil)))))) (blkOk_by (N := ["draw", "most", "k"]) (sc := defScope s_law_octets) (by decide +kernel)) (by decide) (fun _ _ _ _ _ => p_nm Sc.nd) (fun _ _ _ _ _ => ts_nil) (fun _ _ _ _ _ => e_call (F_law_take.mono (by decide)) room gu NT.takes0 T.g__law_take (a_cons (e_var 0) (a_cons (e_int) (a_nil))))))))
theorem ok_law_frame (T : Tx K mg a) {fd : FuncData} (Fu : Fun K "_law_frame" "_law_frame" s_law_frame a.f_law_frame fd) (F_law_octets : FnG P w K mg base 2 a.f_law_octets (d_law_octets K a)) (F_law_take : FnG P w K mg base 1 a.f_law_take (d_law_take K a))  : FnG P w K mg base 3 a.f_law_frame (d_law_frame K a) := by
  have Sc := sc_law_frame
  refine fnG_by (k := 2) Fu Sc (Fu.binds (ps := ["draw"]) fun _ _ _ _ _ _ us hl => match us, hl with | [_], _ => rfl) (by decide) fun X W cd A outer s H E hX hW room gu tk hp => ?_
  subst hX hW
  exact (b_cons (s_par2 (i := 1) (j := 2) rfl Sc.nd (l_cons (e_call (F_law_take.mono (by decide)) room gu tk T.g__law_take (a_cons (e_var 0) (a_cons (e_int) (a_nil)))) (l_cons (e_call (F_law_take.mono (by decide)) room gu tk T.g__law_take (a_cons (e_var 0) (a_cons (e_int) (a_nil)))) (l_nil)))) (b_cons (s_if (t_eq (room.units) (e_var 1) (e_int)) (b_cons (s_asg (e_call (F_law_octets.mono (by decide)) room gu tk T.g__law_octets (a_cons (e_var 0) (a_cons (e_int) (a_nil)))) (g_nm Sc.nd)) (b_one (s_ret (e_add (e_tup (a_cons (e_int) (a_cons (e_len T.n_len (e_var 3)) (a_nil)))) (e_var 3))))) (b_nil)) (b_cons (s_if (t_eq (room.units) (e_var 1) (e_int)) (b_one (s_ret (e_tup (a_cons (e_int) (a_cons (e_add (e_int) (e_call (F_law_take.mono (by decide)) room gu tk T.g__law_take (a_cons (e_var 0) (a_cons (e_int) (a_nil))))) (a_nil)))))) (b_nil)) (b_cons (s_if (t_eq (room.units) (e_var 1) (e_int)) (b_cons (s_asg (e_call (F_law_octets.mono (by decide)) room gu tk T.g__law_octets (a_cons (e_var 0) (a_cons (e_int) (a_nil)))) (g_nm Sc.nd)) (b_one (s_ret (e_add (e_tup (a_cons (e_mul (e_int) (e_var 2)) (a_cons (e_len T.n_len (e_var 3)) (a_nil)))) (e_var 3))))) (b_nil)) (b_one (s_ret (e_if (t_eq (room.units) (e_var 1) (e_int)) (e_tup (a_cons (e_add (e_mul (e_int) (e_var 2)) (e_int)) (a_nil))) (e_if (t_eq (room.units) (e_var 1) (e_int)) (e_tup (a_cons (e_add (e_mul (e_int) (e_var 2)) (e_int)) (a_nil))) (e_tup (a_cons (e_add (e_mul (e_int) (e_var 2)) (e_int)) (a_cons (e_call (F_law_take.mono (by decide)) room gu tk T.g__law_take (a_cons (e_var 0) (a_cons (e_int) (a_nil)))) (a_cons (e_call (F_law_take.mono (by decide)) room gu tk T.g__law_take (a_cons (e_var 0) (a_cons (e_int) (a_nil)))) (a_nil)))))))))))))
theorem ok_law_parted (T : Tx K mg a) {fd : FuncData} (Fu : Fun K "_law_parted" "_law_parted" s_law_parted a.f_law_parted fd)   : FnG P w K mg base 1 a.f_law_parted (d_law_parted K a) := by
  have Sc := sc_law_parted
  refine fnG_by (k := 0) Fu Sc (Fu.binds (ps := ["octets"]) fun _ _ _ _ _ _ us hl => match us, hl with | [_], _ => rfl) (by decide) fun X W cd A outer s H E hX hW room gu tk hp => ?_
  subst hX hW
  exact (b_cons (s_par rfl (l_cons (e_tup (a_nil)) (l_cons (e_int) (l_nil))) (gs_cons (g_nm Sc.nd) (gs_cons (g_nm Sc.nd) (gs_nil)))) (b_cons (s_for hp rfl (i_range1 T.n_range (e_add (e_len T.n_len (e_var 0)) (e_int))) (g_nm Sc.nd) (b_cons (s_if (t_eq (room.units) (e_var 2) (e_len T.n_len (e_var 0))) (b_one (s_ret (e_tup (a_cons (e_var 1) (a_cons (e_tup (a_nil)) (a_nil)))))) (b_nil)) (b_cons (s_par2 (i := 4) (j := 5) rfl Sc.nd (l_cons (e_ix (e_var 0) (e_var 2)) (l_cons (e_sl (e_var 0) (o_some (e_add (e_var 2) (e_int))) (o_none)) (l_nil)))) (b_cons (s_if (t_w (w_or (t_gt (e_var 4) (e_int)) (w_or1 (t_w (w_and (t_w (w_or (t_eq (room.units) (e_var 4) (e_int)) (w_or (t_eq (room.units) (e_var 4) (e_int)) (w_or1 (t_eq (room.units) (e_mod (e_toInt T.n_int (e_var 4)) (e_int)) (e_int)))))) (w_and (t_ne (room.units) (e_var 5) (e_tup (a_nil))) (w_and1 (t_eq (room.units) (e_ix (e_var 5) (e_int)) (e_int))))))))) (b_one (s_ret (e_non))) (b_nil)) (b_cons (s_asg (e_if (t_eq (room.units) (e_var 4) (e_int)) (e_int) (e_if (t_w (w_and (t_lt (e_var 4) (e_int)) (w_and1 (t_in (e_mod (e_toInt T.n_int (e_var 4)) (e_int)) (e_tup (a_cons (e_int) (a_cons (e_int) (a_nil)))))))) (e_int) (e_if (t_w (w_and (t_lt (e_var 4) (e_int)) (w_and1 (t_eq (room.units) (e_mod (e_toInt T.n_int (e_var 4)) (e_int)) (e_int))))) (e_int) (e_if (t_ne (room.units) (e_var 5) (e_tup (a_nil))) (e_add (e_int) (e_ix (e_var 5) (e_int))) (e_int))))) (g_nm Sc.nd)) (b_cons (s_if (t_w (w_or (t_eq (room.units) (e_var 6) (e_int)) (w_or1 (t_gt (e_add (e_var 2) (e_var 6)) (e_len T.n_len (e_var 0)))))) (b_one (s_ret (e_tup (a_cons (e_var 1) (a_cons (e_sl (e_var 0) (o_some (e_var 2)) (o_none)) (a_nil)))))) (b_nil)) (b_one (s_par2 (i := 1) (j := 2) rfl Sc.nd (l_cons (e_add (e_var 1) (e_tup (a_cons (e_sl (e_var 0) (o_some (e_var 2)) (o_some (e_add (e_var 2) (e_var 6)))) (a_nil)))) (l_cons (e_add (e_var 2) (e_var 6)) (l_nil))))))))))) (b_one (s_ret (e_non)))))
theorem ok_law_told (T : Tx K mg a) {fd : FuncData} (Fu : Fun K "_law_told" "_law_told" s_law_told a.f_law_told fd) (F_parted_frames : FnG P w K mg base 4 a.f_parted_frames (d_parted_frames K a))  : FnG P w K mg base 5 a.f_law_told (d_law_told K a) := by
  have Sc := sc_law_told
  refine fnG_by (k := 4) Fu Sc (Fu.binds (ps := ["octets"]) fun _ _ _ _ _ _ us hl => match us, hl with | [_], _ => rfl) (by decide) fun X W cd A outer s H E hX hW room gu tk hp => ?_
  subst hX hW
  exact (b_one (s_tryL (i := 1) (z := 0) rfl rfl Sc.nd rfl rfl ⟨by rfl, by decide, .inl T.g_BadForm⟩ tk T.xf_BadForm T.nl_BadForm (fun _ => pe_non) (fun _ => pe_str) (fun _ _ => rfl) (fun _ _ => rfl) (fun _ _ _ tkV hpV => b_one (s_ret (e_call (F_parted_frames.mono (by decide)) room gu tkV T.g_parted_frames (a_cons (e_var 0) (a_nil)))))))
theorem ok_law (T : Tx K mg a) {fd : FuncData} (Fu : Fun K "law" "law" s_law a.f_law fd) (F_frame_octets : FnG P w K mg base 1 a.f_frame_octets (d_frame_octets K a)) (F_law_draw : FnG P w K mg base 1 a.f_law_draw (d_law_draw K a)) (F_law_frame : FnG P w K mg base 3 a.f_law_frame (d_law_frame K a)) (F_law_octets : FnG P w K mg base 2 a.f_law_octets (d_law_octets K a)) (F_law_parted : FnG P w K mg base 1 a.f_law_parted (d_law_parted K a)) (F_law_same : FnG P w K mg base 1 a.f_law_same (d_law_same K a)) (F_law_take : FnG P w K mg base 1 a.f_law_take (d_law_take K a)) (F_law_told : FnG P w K mg base 5 a.f_law_told (d_law_told K a)) (F_parted_frames : FnG P w K mg base 4 a.f_parted_frames (d_parted_frames K a)) (F_shout_octets : FnG P w K mg base 1 a.f_shout_octets (d_shout_octets K a))  : FnG P w K mg base 6 a.f_law (d_law K a) := by
  have Sc := sc_law
  refine fnG_by (k := 5) Fu Sc (Fu.binds (ps := ["script"]) fun _ _ _ _ _ _ us hl => match us, hl with | [_], _ => rfl) (by decide) fun X W cd A outer s H E hX hW room gu tk hp => ?_
  subst hX hW
  exact (b_cons (s_asg (e_call (F_law_draw.mono (by decide)) room gu tk T.g__law_draw (a_cons (e_var 0) (a_nil))) (g_nm Sc.nd)) (b_cons (s_for hp rfl (i_range1 T.n_range (e_int)) (g_nm Sc.nd) (b_cons (s_asg (e_call (F_law_octets.mono (by decide)) room gu tk T.g__law_octets (a_cons (e_var 1) (a_cons (e_int) (a_nil)))) (g_nm Sc.nd)) (b_cons (s_if (t_not (t_tru (e_call (F_law_same.mono (by decide)) room gu tk T.g__law_same (a_cons (e_call (F_shout_octets.mono (by decide)) room gu tk T.g_shout_octets (a_cons (e_var 3) (a_nil))) (a_cons (e_add (e_tup (a_cons (e_int) (a_cons (e_len T.n_len (e_var 3)) (a_nil)))) (e_var 3)) (a_nil)))))) (b_one (s_ret (e_bl))) (b_nil)) (b_cons (s_asg (e_tuple T.n_tuple (e_lc (own := [("k", 7)]) rfl Sc.nd (i_range1 T.n_range (e_call (F_law_take.mono (by decide)) room gu tk T.g__law_take (a_cons (e_var 1) (a_cons (e_int) (a_nil))))) (blkOk_by (N := ["script", "draw", "turn", "octets", "frames", "whole", "frame", "k", "at", "spoiled", "own", "told", "due", "back"]) (sc := defScope s_law) (by decide +kernel)) (by decide) (fun _ _ _ _ _ => p_nm Sc.nd) (fun _ _ _ _ _ => ts_nil) (fun _ _ _ _ _ => e_call (F_law_frame.mono (by decide)) room gu NT.takes0 T.g__law_frame (a_cons (e_var 1) (a_nil))))) (g_nm Sc.nd)) (b_cons (s_asg (e_tup (a_nil)) (g_nm Sc.nd)) (b_cons (s_for hp rfl (i_seq (e_var 4)) (g_nm Sc.nd) (b_one (s_asg (e_add (e_var 5) (e_var 6)) (g_nm Sc.nd)))) (b_cons (s_if (t_w (w_or (t_not (t_tru (e_call (F_law_same.mono (by decide)) room gu tk T.g__law_same (a_cons (e_call (F_parted_frames.mono (by decide)) room gu tk T.g_parted_frames (a_cons (e_var 5) (a_nil))) (a_cons (e_tup (a_cons (e_var 4) (a_cons (e_tup (a_nil)) (a_nil)))) (a_nil)))))) (w_or1 (t_ne (room.units) (e_call (F_frame_octets.mono (by decide)) room gu tk T.g_frame_octets (a_cons (e_tup (a_cons (e_int) (a_cons (e_str) (a_cons (e_var 3) (a_nil))))) (a_nil))) (e_add (e_tup (a_cons (e_int) (a_cons (e_len T.n_len (e_var 3)) (a_nil)))) (e_var 3)))))) (b_one (s_ret (e_bl))) (b_nil)) (b_one (s_for hp rfl (i_range1 T.n_range (e_int)) (g_nm Sc.nd) (b_cons (s_asg (e_call (F_law_take.mono (by decide)) room gu tk T.g__law_take (a_cons (e_var 1) (a_cons (e_add (e_len T.n_len (e_var 5)) (e_int)) (a_nil)))) (g_nm Sc.nd)) (b_cons (s_asg (e_add (e_add (e_sl (e_var 5) (o_none) (o_some (e_var 8))) (e_tup (a_cons (e_ix (e_lst (a_cons (e_add (e_int) (e_call (F_law_take.mono (by decide)) room gu tk T.g__law_take (a_cons (e_var 1) (a_cons (e_int) (a_nil))))) (a_cons (e_int) (a_cons (e_int) (a_cons (e_int) (a_cons (e_call (F_law_take.mono (by decide)) room gu tk T.g__law_take (a_cons (e_var 1) (a_cons (e_int) (a_nil)))) (a_nil))))))) (e_call (F_law_take.mono (by decide)) room gu tk T.g__law_take (a_cons (e_var 1) (a_cons (e_int) (a_nil))))) (a_nil)))) (e_sl (e_var 5) (o_some (e_add (e_var 8) (e_int))) (o_none))) (g_nm Sc.nd)) (b_one (s_for hp rfl (i_seq (e_tup (a_cons (e_sl (e_var 5) (o_none) (o_some (e_var 8))) (a_cons (e_var 9) (a_cons (e_add (e_var 5) (e_tup (a_cons (e_int) (a_nil)))) (a_cons (e_add (e_var 5) (e_tup (a_cons (e_int) (a_nil)))) (a_cons (e_add (e_var 5) (e_tup (a_cons (e_int) (a_cons (e_int) (a_nil))))) (a_cons (e_add (e_var 5) (e_tup (a_cons (e_int) (a_cons (e_int) (a_nil))))) (a_cons (e_sl (e_var 9) (o_none) (o_some (e_add (e_var 8) (e_int)))) (a_nil)))))))))) (g_nm Sc.nd) (b_cons (s_par2 (i := 11) (j := 12) rfl Sc.nd (l_cons (e_call (F_law_told.mono (by decide)) room gu tk T.g__law_told (a_cons (e_var 10) (a_nil))) (l_cons (e_call (F_law_parted.mono (by decide)) room gu tk T.g__law_parted (a_cons (e_var 10) (a_nil))) (l_nil)))) (b_cons (s_if (t_not (t_tru (e_call (F_law_same.mono (by decide)) room gu tk T.g__law_same (a_cons (e_var 11) (a_cons (e_var 12) (a_nil)))))) (b_one (s_ret (e_bl))) (b_nil)) (b_one (s_if (t_notn (e_var 12) (e_non)) (b_cons (s_asg (e_tup (a_nil)) (g_nm Sc.nd)) (b_cons (s_for hp rfl (i_seq (e_add (e_ix (e_var 11) (e_int)) (e_tup (a_cons (e_ix (e_var 11) (e_int)) (a_nil))))) (g_nm Sc.nd) (b_one (s_asg (e_add (e_var 13) (e_var 6)) (g_nm Sc.nd)))) (b_one (s_if (t_ne (room.units) (e_var 13) (e_var 10)) (b_one (s_ret (e_bl))) (b_nil))))) (b_nil)))))))))))))))))) (b_one (s_ret (e_bl)))))
end
/-! ### objects -/
/-! ### what the top has written, the head -/
abbrev Den : Prop := ∀ (K : PySem.W.Frag) (mg : Str → Option Value) (a : Ad), Tx K mg a → ∀ zs : List Int, zs.length ≤ 63 → (∀ z ∈ zs, Builtin.Int.intBits z ≤ 1048576) → LawDen (d_law K a) zs
theorem fin (den : Den) {l : PySem.W.OpenLaw} {w : World} {K : PySem.W.Frag} {h : Heap} {mg : Str → Option Value} {fa : Addr} {c_BadForm c_KINDS f_frame_octets f_frame_length f_shout_octets f_whole_length f_parted_frames f_law_draw f_law_take f_law_same f_law_octets f_law_frame f_law_parted f_law_told f_law : Addr} (X : K.In h) (G : h.Ns mainGlobals mg) (hfa : mg "law" = some (.ref fa))
    {od0 an0 : Option Addr} {sl0 : Array (Option Value)} {oc0 kV0 dc0 pm0 cd0 ct0 : Value}
    {od1 an1 : Option Addr} {sl1 : Array (Option Value)} {oc1 kV1 dc1 pm1 cd1 ct1 : Value}
    {od2 an2 : Option Addr} {sl2 : Array (Option Value)} {oc2 kV2 dc2 pm2 cd2 ct2 : Value}
    {od3 an3 : Option Addr} {sl3 : Array (Option Value)} {oc3 kV3 dc3 pm3 cd3 ct3 : Value}
    {od4 an4 : Option Addr} {sl4 : Array (Option Value)} {oc4 kV4 dc4 pm4 cd4 ct4 : Value}
    {od5 an5 : Option Addr} {sl5 : Array (Option Value)} {oc5 kV5 dc5 pm5 cd5 ct5 : Value}
    {od6 an6 : Option Addr} {sl6 : Array (Option Value)} {oc6 kV6 dc6 pm6 cd6 ct6 : Value}
    {od7 an7 : Option Addr} {sl7 : Array (Option Value)} {oc7 kV7 dc7 pm7 cd7 ct7 : Value}
    {od8 an8 : Option Addr} {sl8 : Array (Option Value)} {oc8 kV8 dc8 pm8 cd8 ct8 : Value}
    {od9 an9 : Option Addr} {sl9 : Array (Option Value)} {oc9 kV9 dc9 pm9 cd9 ct9 : Value}
    {od10 an10 : Option Addr} {sl10 : Array (Option Value)} {oc10 kV10 dc10 pm10 cd10 ct10 : Value}
    {od11 an11 : Option Addr} {sl11 : Array (Option Value)} {oc11 kV11 dc11 pm11 cd11 ct11 : Value}
    {od12 an12 : Option Addr} {sl12 : Array (Option Value)} {oc12 kV12 dc12 pm12 cd12 ct12 : Value}
    {uI_KINDS : Array Value} {uN_KINDS : Nat} {uS_KINDS : Array (Option Value)}
    {zf_BadForm zcc_BadForm zcd_BadForm : Addr} {zan_BadForm zod_BadForm : Option Addr} {zsl_BadForm : Array (Option Value)} {zoc_BadForm zkV_BadForm zdc_BadForm zpm_BadForm zct_BadForm : Value}
    {zccl_BadForm : Value} {zcdd_BadForm : Option Addr} {zvs_BadForm : Array Value} {zccs_BadForm : Array (Option Value)} {zfile_BadForm : Str} {ztf_BadForm : Tok} {zel_BadForm : Value} {zed_BadForm : Option Addr} {zes_BadForm : Array (Option Value)}
    {znm_BadForm zqn_BadForm : Str} {zN_BadForm : Addr} {zbs_BadForm zbm_BadForm : List Value} {zsn_BadForm : List Str} {zsub_BadForm : List Value} {zab_BadForm : Bool} {zcol_BadForm : Option Bool} {zdd_BadForm : Option Addr} {zk0_BadForm zk1_BadForm zk2_BadForm zk3_BadForm zk5_BadForm : Option Value}
    {tq_HEARD : Tok}
    {tq_MAX_STREAMS : Tok}
    {tq_SHOUT : Tok}
    (n_abs : PySem.W.nsIn K mainGlobals "abs" = some none)
    (n_int : PySem.W.nsIn K mainGlobals "int" = some none)
    (n_len : PySem.W.nsIn K mainGlobals "len" = some none)
    (n_range : PySem.W.nsIn K mainGlobals "range" = some none)
    (n_repr : PySem.W.nsIn K mainGlobals "repr" = some none)
    (n_super : PySem.W.nsIn K mainGlobals "super" = some none)
    (n_tuple : PySem.W.nsIn K mainGlobals "tuple" = some none)
    (a_BadForm : PySem.W.nsIn K mainGlobals "BadForm" = some (some (.ref c_BadForm)))
    (a_KINDS : PySem.W.nsIn K mainGlobals "KINDS" = some (some (.ref c_KINDS)))
    (ut_KINDS : K.lookup c_KINDS = some ⟨.type "tuple", none, .seq uI_KINDS uN_KINDS, uS_KINDS⟩)
    (uz_KINDS : uI_KINDS.size ≤ sizeLine)
    (uv_KINDS : Vals ((["data", "end", "stop", "credit"] : List Str).map V.str) uI_KINDS.toList)
    (a_frame_octets : PySem.W.nsIn K mainGlobals "frame_octets" = some (some (.ref f_frame_octets)))
    (l_frame_octets : K.lookup f_frame_octets = some ⟨oc0, od0, .func (PySem.W.fnOf "frame_octets" "frame_octets" (defArgs s_frame_octets) (defBody s_frame_octets) (defScope s_frame_octets) .none kV0 dc0 pm0 an0 cd0 ct0), sl0⟩)
    (c_frame_octets : PySem.W.codeIn K cd0 "frame_octets" = true)
    (k_frame_octets : PySem.W.keepIn K (.ref f_frame_octets) = true)
    (a_frame_length : PySem.W.nsIn K mainGlobals "frame_length" = some (some (.ref f_frame_length)))
    (l_frame_length : K.lookup f_frame_length = some ⟨oc1, od1, .func (PySem.W.fnOf "frame_length" "frame_length" (defArgs s_frame_length) (defBody s_frame_length) (defScope s_frame_length) .none kV1 dc1 pm1 an1 cd1 ct1), sl1⟩)
    (c_frame_length : PySem.W.codeIn K cd1 "frame_length" = true)
    (k_frame_length : PySem.W.keepIn K (.ref f_frame_length) = true)
    (a_shout_octets : PySem.W.nsIn K mainGlobals "shout_octets" = some (some (.ref f_shout_octets)))
    (l_shout_octets : K.lookup f_shout_octets = some ⟨oc2, od2, .func (PySem.W.fnOf "shout_octets" "shout_octets" (defArgs s_shout_octets) (defBody s_shout_octets) (defScope s_shout_octets) .none kV2 dc2 pm2 an2 cd2 ct2), sl2⟩)
    (c_shout_octets : PySem.W.codeIn K cd2 "shout_octets" = true)
    (k_shout_octets : PySem.W.keepIn K (.ref f_shout_octets) = true)
    (a_whole_length : PySem.W.nsIn K mainGlobals "whole_length" = some (some (.ref f_whole_length)))
    (l_whole_length : K.lookup f_whole_length = some ⟨oc3, od3, .func (PySem.W.fnOf "whole_length" "whole_length" (defArgs s_whole_length) (defBody s_whole_length) (defScope s_whole_length) .none kV3 dc3 pm3 an3 cd3 ct3), sl3⟩)
    (c_whole_length : PySem.W.codeIn K cd3 "whole_length" = true)
    (k_whole_length : PySem.W.keepIn K (.ref f_whole_length) = true)
    (a_parted_frames : PySem.W.nsIn K mainGlobals "parted_frames" = some (some (.ref f_parted_frames)))
    (l_parted_frames : K.lookup f_parted_frames = some ⟨oc4, od4, .func (PySem.W.fnOf "parted_frames" "parted_frames" (defArgs s_parted_frames) (defBody s_parted_frames) (defScope s_parted_frames) .none kV4 dc4 pm4 an4 cd4 ct4), sl4⟩)
    (c_parted_frames : PySem.W.codeIn K cd4 "parted_frames" = true)
    (k_parted_frames : PySem.W.keepIn K (.ref f_parted_frames) = true)
    (a_law_draw : PySem.W.nsIn K mainGlobals "_law_draw" = some (some (.ref f_law_draw)))
    (l_law_draw : K.lookup f_law_draw = some ⟨oc5, od5, .func (PySem.W.fnOf "_law_draw" "_law_draw" (defArgs s_law_draw) (defBody s_law_draw) (defScope s_law_draw) .none kV5 dc5 pm5 an5 cd5 ct5), sl5⟩)
    (c_law_draw : PySem.W.codeIn K cd5 "_law_draw" = true)
    (k_law_draw : PySem.W.keepIn K (.ref f_law_draw) = true)
    (a_law_take : PySem.W.nsIn K mainGlobals "_law_take" = some (some (.ref f_law_take)))
    (l_law_take : K.lookup f_law_take = some ⟨oc6, od6, .func (PySem.W.fnOf "_law_take" "_law_take" (defArgs s_law_take) (defBody s_law_take) (defScope s_law_take) .none kV6 dc6 pm6 an6 cd6 ct6), sl6⟩)
    (c_law_take : PySem.W.codeIn K cd6 "_law_take" = true)
    (k_law_take : PySem.W.keepIn K (.ref f_law_take) = true)
    (a_law_same : PySem.W.nsIn K mainGlobals "_law_same" = some (some (.ref f_law_same)))
    (l_law_same : K.lookup f_law_same = some ⟨oc7, od7, .func (PySem.W.fnOf "_law_same" "_law_same" (defArgs s_law_same) (defBody s_law_same) (defScope s_law_same) .none kV7 dc7 pm7 an7 cd7 ct7), sl7⟩)
    (c_law_same : PySem.W.codeIn K cd7 "_law_same" = true)
    (k_law_same : PySem.W.keepIn K (.ref f_law_same) = true)
    (a_law_octets : PySem.W.nsIn K mainGlobals "_law_octets" = some (some (.ref f_law_octets)))
    (l_law_octets : K.lookup f_law_octets = some ⟨oc8, od8, .func (PySem.W.fnOf "_law_octets" "_law_octets" (defArgs s_law_octets) (defBody s_law_octets) (defScope s_law_octets) .none kV8 dc8 pm8 an8 cd8 ct8), sl8⟩)
    (c_law_octets : PySem.W.codeIn K cd8 "_law_octets" = true)
    (k_law_octets : PySem.W.keepIn K (.ref f_law_octets) = true)
    (a_law_frame : PySem.W.nsIn K mainGlobals "_law_frame" = some (some (.ref f_law_frame)))
    (l_law_frame : K.lookup f_law_frame = some ⟨oc9, od9, .func (PySem.W.fnOf "_law_frame" "_law_frame" (defArgs s_law_frame) (defBody s_law_frame) (defScope s_law_frame) .none kV9 dc9 pm9 an9 cd9 ct9), sl9⟩)
    (c_law_frame : PySem.W.codeIn K cd9 "_law_frame" = true)
    (k_law_frame : PySem.W.keepIn K (.ref f_law_frame) = true)
    (a_law_parted : PySem.W.nsIn K mainGlobals "_law_parted" = some (some (.ref f_law_parted)))
    (l_law_parted : K.lookup f_law_parted = some ⟨oc10, od10, .func (PySem.W.fnOf "_law_parted" "_law_parted" (defArgs s_law_parted) (defBody s_law_parted) (defScope s_law_parted) .none kV10 dc10 pm10 an10 cd10 ct10), sl10⟩)
    (c_law_parted : PySem.W.codeIn K cd10 "_law_parted" = true)
    (k_law_parted : PySem.W.keepIn K (.ref f_law_parted) = true)
    (a_law_told : PySem.W.nsIn K mainGlobals "_law_told" = some (some (.ref f_law_told)))
    (l_law_told : K.lookup f_law_told = some ⟨oc11, od11, .func (PySem.W.fnOf "_law_told" "_law_told" (defArgs s_law_told) (defBody s_law_told) (defScope s_law_told) .none kV11 dc11 pm11 an11 cd11 ct11), sl11⟩)
    (c_law_told : PySem.W.codeIn K cd11 "_law_told" = true)
    (k_law_told : PySem.W.keepIn K (.ref f_law_told) = true)
    (a_law : PySem.W.nsIn K mainGlobals "law" = some (some (.ref f_law)))
    (l_law : K.lookup f_law = some ⟨oc12, od12, .func (PySem.W.fnOf "law" "law" (defArgs s_law) (defBody s_law) (defScope s_law) .none kV12 dc12 pm12 an12 cd12 ct12), sl12⟩)
    (c_law : PySem.W.codeIn K cd12 "law" = true)
    (k_law : PySem.W.keepIn K (.ref f_law) = true)
    (k_BadForm : PySem.W.keepIn K (.ref c_BadForm) = true)
    (b_BadForm : PySem.W.subIn K (.ref c_BadForm) (.type "BaseException") = some true)
    (t_BadForm : PySem.W.typeIn K (.ref c_BadForm) = some (.type "type"))
    (ic_BadForm : PySem.W.isClsIn K c_BadForm = true)
    (s_BadForm_BadForm : PySem.W.subIn K (.ref c_BadForm) (.ref c_BadForm) = some true)
    (zi_BadForm : PySem.W.findIn K (.ref c_BadForm) "__init__" = some (some (.ref zf_BadForm)))
    (zl_BadForm : K.lookup zf_BadForm = some ⟨zoc_BadForm, zod_BadForm, .func (PySem.W.ksFn "__init__" "BadForm.__init__" (defArgs s_BadForm_init) (defBody s_BadForm_init) (defScope s_BadForm_init) .none zkV_BadForm zdc_BadForm zpm_BadForm zan_BadForm (.ref zcd_BadForm) zct_BadForm zcc_BadForm), zsl_BadForm⟩)
    (zc_BadForm : PySem.W.codeIn K (.ref zcd_BadForm) "BadForm.__init__" = true)
    (zt_BadForm : PySem.W.typeIn K (.ref zf_BadForm) = some (.type "function"))
    (zd_BadForm : K.lookup zcd_BadForm = some ⟨zccl_BadForm, zcdd_BadForm, .fields zvs_BadForm, zccs_BadForm⟩)
    (zv_BadForm : zvs_BadForm[2]? = some (.str zfile_BadForm ztf_BadForm))
    (zf_BadFormx : ((l.prog.main.file : Str) == zfile_BadForm) = true)
    (ze_BadForm : K.lookup zcc_BadForm = some ⟨zel_BadForm, zed_BadForm, .cell (some (.ref c_BadForm)), zes_BadForm⟩)
    (zo_BadForm : PySem.W.nsIn K cStatics "thirdparty.any" = some none)
    (zs_BadForm : PySem.W.ks_superIn K c_BadForm c_BadForm "__init__" = some (some (.builtin "ValueError.__init__")))
    (zw_BadForm : PySem.W.subIn K (.ref c_BadForm) (.type "ValueError") = some true)
    (zm_BadForm : PySem.W.mroIn K c_BadForm (.ref c_BadForm) = some true)
    (zp_BadForm : (l.prog.main.scope.names.lookup ("super" : Str)).isSome = false)
    (zn_BadForm : PySem.W.findIn K (.ref c_BadForm) "line" = some none)
    (zk_BadForm : K.lookup c_BadForm = some (excClassObj znm_BadForm zqn_BadForm c_BadForm zN_BadForm zbs_BadForm zbm_BadForm true zsn_BadForm zsub_BadForm zab_BadForm zcol_BadForm zdd_BadForm zk0_BadForm zk1_BadForm zk2_BadForm zk3_BadForm zk5_BadForm "ValueError.__new__"))
    (zb_BadForm : PySem.HandSPX.refsVE zbm_BadForm = true)
    (za_BadForm : PySem.W.findIn K (.ref c_BadForm) "__setattr__" = some (some (.builtin "object.__setattr__")))
    (zg_BadForm : PySem.W.findIn K (.ref c_BadForm) "__getattribute__" = some (some (.builtin "BaseException.__getattribute__")))
    (zh_BadForm : PySem.W.findIn K (.ref c_BadForm) "__getattr__" = some none)
    (zy_BadForm : PySem.W.hasDictIn K c_BadForm = true)
    (v_HEARD : PySem.W.nsIn K mainGlobals "HEARD" = some (some (.int 33 tq_HEARD)))
    (v_MAX_STREAMS : PySem.W.nsIn K mainGlobals "MAX_STREAMS" = some (some (.int 8 tq_MAX_STREAMS)))
    (v_SHOUT : PySem.W.nsIn K mainGlobals "SHOUT" = some (some (.int 32 tq_SHOUT)))
    : (∀ base : Heap, K.In base → base.Ns mainGlobals mg → FnG l.prog w K mg base 6 fa (d_law K ⟨c_BadForm, c_KINDS, f_frame_octets, f_frame_length, f_shout_octets, f_whole_length, f_parted_frames, f_law_draw, f_law_take, f_law_same, f_law_octets, f_law_frame, f_law_parted, f_law_told, f_law⟩)) ∧ ∀ zs : List Int, zs.length ≤ 63 → (∀ z ∈ zs, Builtin.Int.intBits z ≤ 1048576) → LawDen (d_law K ⟨c_BadForm, c_KINDS, f_frame_octets, f_frame_length, f_shout_octets, f_whole_length, f_parted_frames, f_law_draw, f_law_take, f_law_same, f_law_octets, f_law_frame, f_law_parted, f_law_told, f_law⟩) zs := by
  let a : Ad := ⟨c_BadForm, c_KINDS, f_frame_octets, f_frame_length, f_shout_octets, f_whole_length, f_parted_frames, f_law_draw, f_law_take, f_law_same, f_law_octets, f_law_frame, f_law_parted, f_law_told, f_law⟩
  have e := hfa.symm.trans (PySem.W.mg_of X G a_law)
  cases e
  have T : Tx K mg a :=
    { n_abs := PySem.W.mg_none_of X G n_abs, n_int := PySem.W.mg_none_of X G n_int, n_len := PySem.W.mg_none_of X G n_len, n_range := PySem.W.mg_none_of X G n_range, n_repr := PySem.W.mg_none_of X G n_repr, n_super := PySem.W.mg_none_of X G n_super, n_tuple := PySem.W.mg_none_of X G n_tuple, g_frame_octets := PySem.W.mg_of X G a_frame_octets, g_frame_length := PySem.W.mg_of X G a_frame_length, g_shout_octets := PySem.W.mg_of X G a_shout_octets, g_whole_length := PySem.W.mg_of X G a_whole_length, g_parted_frames := PySem.W.mg_of X G a_parted_frames, g__law_draw := PySem.W.mg_of X G a_law_draw, g__law_take := PySem.W.mg_of X G a_law_take, g__law_same := PySem.W.mg_of X G a_law_same, g__law_octets := PySem.W.mg_of X G a_law_octets, g__law_frame := PySem.W.mg_of X G a_law_frame, g__law_parted := PySem.W.mg_of X G a_law_parted, g__law_told := PySem.W.mg_of X G a_law_told, g_law := PySem.W.mg_of X G a_law, g_BadForm := PySem.W.mg_of X G a_BadForm, k_BadForm := k_BadForm, b_BadForm := b_BadForm, t_BadForm := t_BadForm, xf_BadForm := ⟨zg_BadForm, zh_BadForm, b_BadForm, zy_BadForm⟩, nl_BadForm := zn_BadForm, e_BadForm_BadForm := exm_of b_BadForm ic_BadForm t_BadForm s_BadForm_BadForm, v_KINDS := PySem.W.mg_of X G a_KINDS, u_KINDS := ⟨_, _, _, ut_KINDS, rfl, rfl, rfl, uz_KINDS, uv_KINDS⟩, v_HEARD := ⟨_, PySem.W.mg_of X G v_HEARD⟩, v_MAX_STREAMS := ⟨_, PySem.W.mg_of X G v_MAX_STREAMS⟩, v_SHOUT := ⟨_, PySem.W.mg_of X G v_SHOUT⟩ }
  refine ⟨fun base _ _ => ?_, den K mg a T⟩
  have Z_BadForm : RzL l.prog w K mg base a.c_BadForm := rz_BadForm ⟨⟨⟨_, _, _, _, _, _, _, _, _, _, _, _, _, _, _, zk_BadForm, zb_BadForm⟩, za_BadForm, b_BadForm, t_BadForm, k_BadForm⟩, ⟨_, _, _, _, _, _, zd_BadForm, zv_BadForm, zf_BadFormx⟩, ⟨_, _, _, ze_BadForm⟩, zo_BadForm, zs_BadForm, zw_BadForm, zm_BadForm, zp_BadForm, zn_BadForm⟩ zl_BadForm zc_BadForm (PySem.W.mg_none_of X G n_super) zi_BadForm zt_BadForm
  have F_frame_octets : FnG l.prog w K mg base 1 a.f_frame_octets (d_frame_octets K a) := ok_frame_octets T (fun_mk (st := s_frame_octets) l_frame_octets c_frame_octets k_frame_octets) 
  have F_frame_length : FnG l.prog w K mg base 2 a.f_frame_length (d_frame_length K a) := ok_frame_length T (fun_mk (st := s_frame_length) l_frame_length c_frame_length k_frame_length) Z_BadForm
  have F_shout_octets : FnG l.prog w K mg base 1 a.f_shout_octets (d_shout_octets K a) := ok_shout_octets T (fun_mk (st := s_shout_octets) l_shout_octets c_shout_octets k_shout_octets) 
  have F_whole_length : FnG l.prog w K mg base 3 a.f_whole_length (d_whole_length K a) := ok_whole_length T (fun_mk (st := s_whole_length) l_whole_length c_whole_length k_whole_length) F_frame_length Z_BadForm
  have F_parted_frames : FnG l.prog w K mg base 4 a.f_parted_frames (d_parted_frames K a) := ok_parted_frames T (fun_mk (st := s_parted_frames) l_parted_frames c_parted_frames k_parted_frames) F_whole_length
  have F_law_draw : FnG l.prog w K mg base 1 a.f_law_draw (d_law_draw K a) := ok_law_draw T (fun_mk (st := s_law_draw) l_law_draw c_law_draw k_law_draw) 
  have F_law_take : FnG l.prog w K mg base 1 a.f_law_take (d_law_take K a) := ok_law_take T (fun_mk (st := s_law_take) l_law_take c_law_take k_law_take) 
  have F_law_same : FnG l.prog w K mg base 1 a.f_law_same (d_law_same K a) := ok_law_same T (fun_mk (st := s_law_same) l_law_same c_law_same k_law_same) 
  have F_law_octets : FnG l.prog w K mg base 2 a.f_law_octets (d_law_octets K a) := ok_law_octets T (fun_mk (st := s_law_octets) l_law_octets c_law_octets k_law_octets) F_law_take
  have F_law_frame : FnG l.prog w K mg base 3 a.f_law_frame (d_law_frame K a) := ok_law_frame T (fun_mk (st := s_law_frame) l_law_frame c_law_frame k_law_frame) F_law_octets F_law_take
  have F_law_parted : FnG l.prog w K mg base 1 a.f_law_parted (d_law_parted K a) := ok_law_parted T (fun_mk (st := s_law_parted) l_law_parted c_law_parted k_law_parted) 
  have F_law_told : FnG l.prog w K mg base 5 a.f_law_told (d_law_told K a) := ok_law_told T (fun_mk (st := s_law_told) l_law_told c_law_told k_law_told) F_parted_frames
  have F_law : FnG l.prog w K mg base 6 a.f_law (d_law K a) := ok_law T (fun_mk (st := s_law) l_law c_law k_law) F_frame_octets F_law_draw F_law_frame F_law_octets F_law_parted F_law_same F_law_take F_law_told F_parted_frames F_shout_octets
  exact F_law
end K70

namespace K70
open PySem PySem.Spec PyProof.Rows L2 NT
abbrev iv (i : Int) : Option P := some (.val (.int i))
def tupI (l : List Int) : D := .tup (l.map D.int)
/-- how long the frame at the head is; nought: not yet known -/
def lng (h : Int) (t : List Int) : Int := if h = 33 then 2 else if h < 32 ∧ (h % 4 = 1 ∨ h % 4 = 2) then 1 else if h < 32 ∧ h % 4 = 3 then 3 else match t with
  | [] => 0
  | x :: _ => 2 + x
def bad (h : Int) (t : List Int) : Prop := 33 < h ∨ ((h = 33 ∨ h = 32 ∨ h % 4 = 0) ∧ t.head? = some 0)
instance (h : Int) (t : List Int) : Decidable (bad h t) := by unfold bad; infer_instance
def pm : Nat → List (List Int) → List Int → Option (List (List Int) × List Int)
  | 0, f, c => some (f, c)
  | _ + 1, f, [] => some (f, [])
  | n + 1, f, h :: t => if bad h t then none else if lng h t = 0 ∨ ((t.length : Int) + 1 < lng h t) then some (f, h :: t) else pm n (f ++ [(h :: t).take (lng h t).toNat]) ((h :: t).drop (lng h t).toNat)
def Oc (l : List Int) : Prop := ∀ x ∈ l, 0 ≤ x ∧ x < 256
theorem lng_nn {h : Int} {t : List Int} (o : Oc t) : 0 ≤ lng h t := by
  unfold lng
  split
  · decide
  · split
    · decide
    · split
      · decide
      · cases t with
        | nil => decide
        | cons x t =>
          have := o x List.mem_cons_self
          show 0 ≤ 2 + x
          omega
theorem Oc.drop {l : List Int} (h : Oc l) (n : Nat) : Oc (l.drop n) := fun x hx => h x (List.mem_of_mem_drop hx)
theorem Oc.take {l : List Int} (h : Oc l) (n : Nat) : Oc (l.take n) := fun x hx => h x (List.mem_of_mem_take hx)
theorem Oc.app {l m : List Int} (h : Oc l) (g : Oc m) : Oc (l ++ m) := fun x hx => (List.mem_append.mp hx).elim (h x) (g x)
theorem Oc.cons {x : Int} {m : List Int} (h : 0 ≤ x ∧ x < 256) (g : Oc m) : Oc (x :: m) := fun y hy => by
  rcases List.mem_cons.mp hy with z | z
  · rw [z]; exact h
  · exact g y z
theorem Oc.nil : Oc [] := fun x hx => by simp at hx
/-- what has been parted is what was there -/
theorem pm_flat : ∀ {n : Nat} {f : List (List Int)} {c : List Int} {f' : List (List Int)} {c' : List Int}, pm n f c = some (f', c') → f'.flatten ++ c' = f.flatten ++ c
  | 0, f, c, f', c', h => by
    simp only [pm, Option.some.injEq, Prod.mk.injEq] at h
    rw [h.1, h.2]
  | n + 1, f, [], f', c', h => by
    simp only [pm, Option.some.injEq, Prod.mk.injEq] at h
    rw [h.1, h.2]
  | n + 1, f, x :: t, f', c', h => by
    simp only [pm] at h
    split at h
    · cases h
    · split at h
      · simp only [Option.some.injEq, Prod.mk.injEq] at h
        rw [h.1, h.2]
      · rw [pm_flat h, List.flatten_append, List.append_assoc]
        congr 1
        simp only [List.flatten_cons, List.flatten_nil, List.append_nil]
        exact List.take_append_drop _ _
theorem pm_len : ∀ {n : Nat} {f : List (List Int)} {c : List Int} {f' : List (List Int)} {c' : List Int}, pm n f c = some (f', c') → f'.length ≤ f.length + n
  | 0, f, c, f', c', h => by
    simp only [pm, Option.some.injEq, Prod.mk.injEq] at h
    rw [← h.1]; omega
  | n + 1, f, [], f', c', h => by
    simp only [pm, Option.some.injEq, Prod.mk.injEq] at h
    rw [← h.1]; omega
  | n + 1, f, x :: t, f', c', h => by
    simp only [pm] at h
    split at h
    · cases h
    · split at h
      · simp only [Option.some.injEq, Prod.mk.injEq] at h
        rw [← h.1]; omega
      · have := pm_len h
        rw [List.length_append, List.length_singleton] at this
        omega
/-- a frame that is whole -/
def Valid (fr : List Int) : Prop := ∃ h t, fr = h :: t ∧ ∀ r : List Int, ¬ bad h (t ++ r) ∧ lng h (t ++ r) = (t.length : Int) + 1
theorem pm_valid : ∀ {frs : List (List Int)} {n : Nat} {f : List (List Int)}, (∀ fr ∈ frs, Valid fr) → frs.length < n → pm n f frs.flatten = some (f ++ frs, [])
  | [], n, f, _, hn => by
    cases n with
    | zero => simp at hn
    | succ n => simp [pm]
  | fr :: frs, n, f, hv, hn => by
    cases n with
    | zero => simp at hn
    | succ n =>
      obtain ⟨h, t, rfl, q⟩ := hv fr List.mem_cons_self
      obtain ⟨q1, q2⟩ := q frs.flatten
      rw [List.flatten_cons, List.cons_append]
      simp only [pm]
      rw [if_neg q1, q2, if_neg (by rw [List.length_append]; omega)]
      have e1 : (h :: (t ++ frs.flatten)).take ((t.length : Int) + 1).toNat = h :: t := by
        rw [show ((t.length : Int) + 1).toNat = t.length + 1 by omega, List.take_succ_cons, List.take_left']
        rfl
      have e2 : (h :: (t ++ frs.flatten)).drop ((t.length : Int) + 1).toNat = frs.flatten := by
        rw [show ((t.length : Int) + 1).toNat = t.length + 1 by omega, List.drop_succ_cons, List.drop_left']
        rfl
      rw [e1, e2, pm_valid (fun g hg => hv g (List.mem_cons_of_mem _ hg)) (by simp at hn; omega), List.append_assoc]
      rfl
section
variable {K : PySem.W.Frag} {mg : Str → Option Value} {a : Ad} {μ : Mu} {C : P → Mu → Prop} {E : CX}
theorem shout_ {l : List Int} (hl : l.length ≤ 900) (hC : C (.val (tupI (32 :: (l.length : Int) :: l))) μ) : d_shout_octets K a [tupI l] μ C E := by
  refine ⟨rfl, ?_⟩
  unfold b_shout_octets tupI
  (try simp only [fAsg, fPar, fPar2, fPar3, fIfS, fRet, fRetN, fDrop, fNil, fBreak, fCont, fAugN, fAugF, fApp, fRaise, mvL, moved, eVar, eVal, eOp2, eOp1, eTup, eLst, eNew, eIf, eAnd2, eOr2, eNot1, eFrz, asD, asB, eFld, eCall, eMake, eMeth, eSl, oNone, oSome, aNil, aCons, lNil, lCons, gNm, gNmS, gFd, gIx, gTp, gsNil, gsCons, tTru, tBool, tAnd2, tOr2, tNot1, tYesD, addM_i, addM_s, addM_t, addM_oo, addM_bo, addM_ob, addM_lo, addM_ol, addM_ll, subM_i, mulM_i, mulM_o, mulT_t, fdivM_i, modM_i, intAddM_i, cmpM_i, min2M_i, max2M_i, negM_i, absM_i, toIntM_i, isnM_any, isN, eqM_i, eqM_b, eqM_s, eqM_t, ixM_t, ixM_o, ixM_l, ixM_k, ixM_r, ixM_b, truM_b, truM_i, truM_n, truM_t, truM_o, lenM, sumM, sumA, tupM, listM, slM, lget, lgetR, lput, iRng1D, iRng2D, iSeq, itOf, eDnew, eDic, eDgt, dgtC, dgM, gDk, keyD, asD, neNilM, List.map_cons, List.map_nil, List.replicate_zero, List.replicate_succ, List.cons_append, List.nil_append, List.append_nil, List.getElem?_cons_succ, List.getElem?_cons_zero, List.set_cons_zero, List.set_cons_succ, List.length_cons, List.length_nil, Nat.reduceAdd, Nat.reduceSub, Nat.reduceLT, Nat.reduceLeDiff, Nat.sub_self, decide_eq_true_eq, sz0, sz1, sz2, sz3, sz4, sz5, sz6, sz7, sz8, ok_int, ok_bl, ok_non, ok_tup, ok_lst, eqb_int, eqb_bl, at0, at1, at2, at3, at4, at5, beq_iff_eq, ite_true, ite_false, Bool.false_eq_true, if_true, if_false, true_and, and_true, false_and, Bool.not_true, Bool.not_false, List.length_map])
  exact ⟨sz (by omega), hC⟩
theorem frameo_ {l : List Int} (hl : l.length ≤ 900) (hC : C (.val (tupI (8 :: (l.length : Int) :: l))) μ) : d_frame_octets K a [.tup [.int 2, .str "data", tupI l]] μ C E := by
  refine ⟨rfl, fCons.go ?_⟩
  unfold tupI
  (try simp only [fAsg, fPar, fPar2, fPar3, fIfS, fRet, fRetN, fDrop, fNil, fBreak, fCont, fAugN, fAugF, fApp, fRaise, mvL, moved, eVar, eVal, eOp2, eOp1, eTup, eLst, eNew, eIf, eAnd2, eOr2, eNot1, eFrz, asD, asB, eFld, eCall, eMake, eMeth, eSl, oNone, oSome, aNil, aCons, lNil, lCons, gNm, gNmS, gFd, gIx, gTp, gsNil, gsCons, tTru, tBool, tAnd2, tOr2, tNot1, tYesD, addM_i, addM_s, addM_t, addM_oo, addM_bo, addM_ob, addM_lo, addM_ol, addM_ll, subM_i, mulM_i, mulM_o, mulT_t, fdivM_i, modM_i, intAddM_i, cmpM_i, min2M_i, max2M_i, negM_i, absM_i, toIntM_i, isnM_any, isN, eqM_i, eqM_b, eqM_s, eqM_t, ixM_t, ixM_o, ixM_l, ixM_k, ixM_r, ixM_b, truM_b, truM_i, truM_n, truM_t, truM_o, lenM, sumM, sumA, tupM, listM, slM, lget, lgetR, lput, iRng1D, iRng2D, iSeq, itOf, eDnew, eDic, eDgt, dgtC, dgM, gDk, keyD, asD, neNilM, List.map_cons, List.map_nil, List.replicate_zero, List.replicate_succ, List.cons_append, List.nil_append, List.append_nil, List.getElem?_cons_succ, List.getElem?_cons_zero, List.set_cons_zero, List.set_cons_succ, List.length_cons, List.length_nil, Nat.reduceAdd, Nat.reduceSub, Nat.reduceLT, Nat.reduceLeDiff, Nat.sub_self, decide_eq_true_eq, sz0, sz1, sz2, sz3, sz4, sz5, sz6, sz7, sz8, ok_int, ok_bl, ok_non, ok_tup, ok_lst, eqb_int, eqb_bl, at0, at1, at2, at3, at4, at5, beq_iff_eq, ite_true, ite_false, Bool.false_eq_true, if_true, if_false, true_and, and_true, false_and, Bool.not_true, Bool.not_false, gsCons])
  refine fCons.go ?_
  (try simp only [fAsg, fPar, fPar2, fPar3, fIfS, fRet, fRetN, fDrop, fNil, fBreak, fCont, fAugN, fAugF, fApp, fRaise, mvL, moved, eVar, eVal, eOp2, eOp1, eTup, eLst, eNew, eIf, eAnd2, eOr2, eNot1, eFrz, asD, asB, eFld, eCall, eMake, eMeth, eSl, oNone, oSome, aNil, aCons, lNil, lCons, gNm, gNmS, gFd, gIx, gTp, gsNil, gsCons, tTru, tBool, tAnd2, tOr2, tNot1, tYesD, addM_i, addM_s, addM_t, addM_oo, addM_bo, addM_ob, addM_lo, addM_ol, addM_ll, subM_i, mulM_i, mulM_o, mulT_t, fdivM_i, modM_i, intAddM_i, cmpM_i, min2M_i, max2M_i, negM_i, absM_i, toIntM_i, isnM_any, isN, eqM_i, eqM_b, eqM_s, eqM_t, ixM_t, ixM_o, ixM_l, ixM_k, ixM_r, ixM_b, truM_b, truM_i, truM_n, truM_t, truM_o, lenM, sumM, sumA, tupM, listM, slM, lget, lgetR, lput, iRng1D, iRng2D, iSeq, itOf, eDnew, eDic, eDgt, dgtC, dgM, gDk, keyD, asD, neNilM, List.map_cons, List.map_nil, List.replicate_zero, List.replicate_succ, List.cons_append, List.nil_append, List.append_nil, List.getElem?_cons_succ, List.getElem?_cons_zero, List.set_cons_zero, List.set_cons_succ, List.length_cons, List.length_nil, Nat.reduceAdd, Nat.reduceSub, Nat.reduceLT, Nat.reduceLeDiff, Nat.sub_self, decide_eq_true_eq, sz0, sz1, sz2, sz3, sz4, sz5, sz6, sz7, sz8, ok_int, ok_bl, ok_non, ok_tup, ok_lst, eqb_int, eqb_bl, at0, at1, at2, at3, at4, at5, beq_iff_eq, ite_true, ite_false, Bool.false_eq_true, if_true, if_false, true_and, and_true, false_and, Bool.not_true, Bool.not_false, eTix])
  refine ⟨mulOk_r (by decide) (by decide), 0, rfl, fun m h => by omega, ?_⟩
  (try simp only [fAsg, fPar, fPar2, fPar3, fIfS, fRet, fRetN, fDrop, fNil, fBreak, fCont, fAugN, fAugF, fApp, fRaise, mvL, moved, eVar, eVal, eOp2, eOp1, eTup, eLst, eNew, eIf, eAnd2, eOr2, eNot1, eFrz, asD, asB, eFld, eCall, eMake, eMeth, eSl, oNone, oSome, aNil, aCons, lNil, lCons, gNm, gNmS, gFd, gIx, gTp, gsNil, gsCons, tTru, tBool, tAnd2, tOr2, tNot1, tYesD, addM_i, addM_s, addM_t, addM_oo, addM_bo, addM_ob, addM_lo, addM_ol, addM_ll, subM_i, mulM_i, mulM_o, mulT_t, fdivM_i, modM_i, intAddM_i, cmpM_i, min2M_i, max2M_i, negM_i, absM_i, toIntM_i, isnM_any, isN, eqM_i, eqM_b, eqM_s, eqM_t, ixM_t, ixM_o, ixM_l, ixM_k, ixM_r, ixM_b, truM_b, truM_i, truM_n, truM_t, truM_o, lenM, sumM, sumA, tupM, listM, slM, lget, lgetR, lput, iRng1D, iRng2D, iSeq, itOf, eDnew, eDic, eDgt, dgtC, dgM, gDk, keyD, asD, neNilM, List.map_cons, List.map_nil, List.replicate_zero, List.replicate_succ, List.cons_append, List.nil_append, List.append_nil, List.getElem?_cons_succ, List.getElem?_cons_zero, List.set_cons_zero, List.set_cons_succ, List.length_cons, List.length_nil, Nat.reduceAdd, Nat.reduceSub, Nat.reduceLT, Nat.reduceLeDiff, Nat.sub_self, decide_eq_true_eq, sz0, sz1, sz2, sz3, sz4, sz5, sz6, sz7, sz8, ok_int, ok_bl, ok_non, ok_tup, ok_lst, eqb_int, eqb_bl, at0, at1, at2, at3, at4, at5, beq_iff_eq, ite_true, ite_false, Bool.false_eq_true, if_true, if_false, true_and, and_true, false_and, Bool.not_true, Bool.not_false, List.length_map, beq_self_eq_true])
  exact ⟨sz (by omega), hC⟩
/-- BadForm(0) -/
def bf (a : Ad) : EV := ⟨a.c_BadForm, [("line", .int 0)]⟩
theorem kinds {h : Int} : (h % 4 = 0 ∨ h % 4 = 1 ∨ h % 4 = 2 ∨ h % 4 = 3) := by omega
theorem flen_ {h : Int} {t : List Int} (hb : bad h t → E (bf a) μ) (h1 : ¬ (h = 33 ∨ h = 32)) (hn : ¬ bad h t → lng h t = 0 → C (.val .non) μ) (hi : ¬ bad h t → 1 ≤ lng h t → C (.val (.int (lng h t))) μ) (o : Oc t) (hl : t.length ≤ 900) : d_frame_length K a [tupI (h :: t)] μ C E := by
  refine ⟨rfl, fCons.go ?_⟩
  unfold tupI
  have k1 : (("end" : Str) == ("data" : Str)) = false := by decide
  have k2 : (("stop" : Str) == ("data" : Str)) = false := by decide
  have k3 : (("credit" : Str) == ("data" : Str)) = false := by decide
  have k4 : (("end" : Str) == ("credit" : Str)) = false := by decide
  have k5 : (("stop" : Str) == ("credit" : Str)) = false := by decide
  have big : 32 ≤ h → E (bf a) μ := fun q => hb (.inl (by omega))
  rcases kinds (h := h) with e | e | e | e
  · (try simp only [fAsg, fPar, fPar2, fPar3, fIfS, fRet, fRetN, fDrop, fNil, fBreak, fCont, fAugN, fAugF, fApp, fRaise, mvL, moved, eVar, eVal, eOp2, eOp1, eTup, eLst, eNew, eIf, eAnd2, eOr2, eNot1, eFrz, asD, asB, eFld, eCall, eMake, eMeth, eSl, oNone, oSome, aNil, aCons, lNil, lCons, gNm, gNmS, gFd, gIx, gTp, gsNil, gsCons, tTru, tBool, tAnd2, tOr2, tNot1, tYesD, addM_i, addM_s, addM_t, addM_oo, addM_bo, addM_ob, addM_lo, addM_ol, addM_ll, subM_i, mulM_i, mulM_o, mulT_t, fdivM_i, modM_i, intAddM_i, cmpM_i, min2M_i, max2M_i, negM_i, absM_i, toIntM_i, isnM_any, isN, eqM_i, eqM_b, eqM_s, eqM_t, ixM_t, ixM_o, ixM_l, ixM_k, ixM_r, ixM_b, truM_b, truM_i, truM_n, truM_t, truM_o, lenM, sumM, sumA, tupM, listM, slM, lget, lgetR, lput, iRng1D, iRng2D, iSeq, itOf, eDnew, eDic, eDgt, dgtC, dgM, gDk, keyD, asD, neNilM, List.map_cons, List.map_nil, List.replicate_zero, List.replicate_succ, List.cons_append, List.nil_append, List.append_nil, List.getElem?_cons_succ, List.getElem?_cons_zero, List.set_cons_zero, List.set_cons_succ, List.length_cons, List.length_nil, Nat.reduceAdd, Nat.reduceSub, Nat.reduceLT, Nat.reduceLeDiff, Nat.sub_self, decide_eq_true_eq, sz0, sz1, sz2, sz3, sz4, sz5, sz6, sz7, sz8, ok_int, ok_bl, ok_non, ok_tup, ok_lst, eqb_int, eqb_bl, at0, at1, at2, at3, at4, at5, beq_iff_eq, ite_true, ite_false, Bool.false_eq_true, if_true, if_false, true_and, and_true, false_and, Bool.not_true, Bool.not_false, e])
    refine ⟨by decide, fCons.go ?_⟩
    (try simp only [fAsg, fPar, fPar2, fPar3, fIfS, fRet, fRetN, fDrop, fNil, fBreak, fCont, fAugN, fAugF, fApp, fRaise, mvL, moved, eVar, eVal, eOp2, eOp1, eTup, eLst, eNew, eIf, eAnd2, eOr2, eNot1, eFrz, asD, asB, eFld, eCall, eMake, eMeth, eSl, oNone, oSome, aNil, aCons, lNil, lCons, gNm, gNmS, gFd, gIx, gTp, gsNil, gsCons, tTru, tBool, tAnd2, tOr2, tNot1, tYesD, addM_i, addM_s, addM_t, addM_oo, addM_bo, addM_ob, addM_lo, addM_ol, addM_ll, subM_i, mulM_i, mulM_o, mulT_t, fdivM_i, modM_i, intAddM_i, cmpM_i, min2M_i, max2M_i, negM_i, absM_i, toIntM_i, isnM_any, isN, eqM_i, eqM_b, eqM_s, eqM_t, ixM_t, ixM_o, ixM_l, ixM_k, ixM_r, ixM_b, truM_b, truM_i, truM_n, truM_t, truM_o, lenM, sumM, sumA, tupM, listM, slM, lget, lgetR, lput, iRng1D, iRng2D, iSeq, itOf, eDnew, eDic, eDgt, dgtC, dgM, gDk, keyD, asD, neNilM, List.map_cons, List.map_nil, List.replicate_zero, List.replicate_succ, List.cons_append, List.nil_append, List.append_nil, List.getElem?_cons_succ, List.getElem?_cons_zero, List.set_cons_zero, List.set_cons_succ, List.length_cons, List.length_nil, Nat.reduceAdd, Nat.reduceSub, Nat.reduceLT, Nat.reduceLeDiff, Nat.sub_self, decide_eq_true_eq, sz0, sz1, sz2, sz3, sz4, sz5, sz6, sz7, sz8, ok_int, ok_bl, ok_non, ok_tup, ok_lst, eqb_int, eqb_bl, at0, at1, at2, at3, at4, at5, beq_iff_eq, ite_true, ite_false, Bool.false_eq_true, if_true, if_false, true_and, and_true, false_and, Bool.not_true, Bool.not_false, k1, beq_self_eq_true, List.length_map])
    refine ⟨mulOk_r (by decide) (by decide), ?_⟩
    by_cases q : 4 * 8 ≤ h
    · rw [if_pos q]
      unfold fRaiseL
      (try simp only [fAsg, fPar, fPar2, fPar3, fIfS, fRet, fRetN, fDrop, fNil, fBreak, fCont, fAugN, fAugF, fApp, fRaise, mvL, moved, eVar, eVal, eOp2, eOp1, eTup, eLst, eNew, eIf, eAnd2, eOr2, eNot1, eFrz, asD, asB, eFld, eCall, eMake, eMeth, eSl, oNone, oSome, aNil, aCons, lNil, lCons, gNm, gNmS, gFd, gIx, gTp, gsNil, gsCons, tTru, tBool, tAnd2, tOr2, tNot1, tYesD, addM_i, addM_s, addM_t, addM_oo, addM_bo, addM_ob, addM_lo, addM_ol, addM_ll, subM_i, mulM_i, mulM_o, mulT_t, fdivM_i, modM_i, intAddM_i, cmpM_i, min2M_i, max2M_i, negM_i, absM_i, toIntM_i, isnM_any, isN, eqM_i, eqM_b, eqM_s, eqM_t, ixM_t, ixM_o, ixM_l, ixM_k, ixM_r, ixM_b, truM_b, truM_i, truM_n, truM_t, truM_o, lenM, sumM, sumA, tupM, listM, slM, lget, lgetR, lput, iRng1D, iRng2D, iSeq, itOf, eDnew, eDic, eDgt, dgtC, dgM, gDk, keyD, asD, neNilM, List.map_cons, List.map_nil, List.replicate_zero, List.replicate_succ, List.cons_append, List.nil_append, List.append_nil, List.getElem?_cons_succ, List.getElem?_cons_zero, List.set_cons_zero, List.set_cons_succ, List.length_cons, List.length_nil, Nat.reduceAdd, Nat.reduceSub, Nat.reduceLT, Nat.reduceLeDiff, Nat.sub_self, decide_eq_true_eq, sz0, sz1, sz2, sz3, sz4, sz5, sz6, sz7, sz8, ok_int, ok_bl, ok_non, ok_tup, ok_lst, eqb_int, eqb_bl, at0, at1, at2, at3, at4, at5, beq_iff_eq, ite_true, ite_false, Bool.false_eq_true, if_true, if_false, true_and, and_true, false_and, Bool.not_true, Bool.not_false])
      exact big (by omega)
    rw [if_neg q]
    cases t with
    | nil =>
      (try simp only [fAsg, fPar, fPar2, fPar3, fIfS, fRet, fRetN, fDrop, fNil, fBreak, fCont, fAugN, fAugF, fApp, fRaise, mvL, moved, eVar, eVal, eOp2, eOp1, eTup, eLst, eNew, eIf, eAnd2, eOr2, eNot1, eFrz, asD, asB, eFld, eCall, eMake, eMeth, eSl, oNone, oSome, aNil, aCons, lNil, lCons, gNm, gNmS, gFd, gIx, gTp, gsNil, gsCons, tTru, tBool, tAnd2, tOr2, tNot1, tYesD, addM_i, addM_s, addM_t, addM_oo, addM_bo, addM_ob, addM_lo, addM_ol, addM_ll, subM_i, mulM_i, mulM_o, mulT_t, fdivM_i, modM_i, intAddM_i, cmpM_i, min2M_i, max2M_i, negM_i, absM_i, toIntM_i, isnM_any, isN, eqM_i, eqM_b, eqM_s, eqM_t, ixM_t, ixM_o, ixM_l, ixM_k, ixM_r, ixM_b, truM_b, truM_i, truM_n, truM_t, truM_o, lenM, sumM, sumA, tupM, listM, slM, lget, lgetR, lput, iRng1D, iRng2D, iSeq, itOf, eDnew, eDic, eDgt, dgtC, dgM, gDk, keyD, asD, neNilM, List.map_cons, List.map_nil, List.replicate_zero, List.replicate_succ, List.cons_append, List.nil_append, List.append_nil, List.getElem?_cons_succ, List.getElem?_cons_zero, List.set_cons_zero, List.set_cons_succ, List.length_cons, List.length_nil, Nat.reduceAdd, Nat.reduceSub, Nat.reduceLT, Nat.reduceLeDiff, Nat.sub_self, decide_eq_true_eq, sz0, sz1, sz2, sz3, sz4, sz5, sz6, sz7, sz8, ok_int, ok_bl, ok_non, ok_tup, ok_lst, eqb_int, eqb_bl, at0, at1, at2, at3, at4, at5, beq_iff_eq, ite_true, ite_false, Bool.false_eq_true, if_true, if_false, true_and, and_true, false_and, Bool.not_true, Bool.not_false])
      rw [if_neg (by decide)]
      refine fCons.go ?_
      (try simp only [fAsg, fPar, fPar2, fPar3, fIfS, fRet, fRetN, fDrop, fNil, fBreak, fCont, fAugN, fAugF, fApp, fRaise, mvL, moved, eVar, eVal, eOp2, eOp1, eTup, eLst, eNew, eIf, eAnd2, eOr2, eNot1, eFrz, asD, asB, eFld, eCall, eMake, eMeth, eSl, oNone, oSome, aNil, aCons, lNil, lCons, gNm, gNmS, gFd, gIx, gTp, gsNil, gsCons, tTru, tBool, tAnd2, tOr2, tNot1, tYesD, addM_i, addM_s, addM_t, addM_oo, addM_bo, addM_ob, addM_lo, addM_ol, addM_ll, subM_i, mulM_i, mulM_o, mulT_t, fdivM_i, modM_i, intAddM_i, cmpM_i, min2M_i, max2M_i, negM_i, absM_i, toIntM_i, isnM_any, isN, eqM_i, eqM_b, eqM_s, eqM_t, ixM_t, ixM_o, ixM_l, ixM_k, ixM_r, ixM_b, truM_b, truM_i, truM_n, truM_t, truM_o, lenM, sumM, sumA, tupM, listM, slM, lget, lgetR, lput, iRng1D, iRng2D, iSeq, itOf, eDnew, eDic, eDgt, dgtC, dgM, gDk, keyD, asD, neNilM, List.map_cons, List.map_nil, List.replicate_zero, List.replicate_succ, List.cons_append, List.nil_append, List.append_nil, List.getElem?_cons_succ, List.getElem?_cons_zero, List.set_cons_zero, List.set_cons_succ, List.length_cons, List.length_nil, Nat.reduceAdd, Nat.reduceSub, Nat.reduceLT, Nat.reduceLeDiff, Nat.sub_self, decide_eq_true_eq, sz0, sz1, sz2, sz3, sz4, sz5, sz6, sz7, sz8, ok_int, ok_bl, ok_non, ok_tup, ok_lst, eqb_int, eqb_bl, at0, at1, at2, at3, at4, at5, beq_iff_eq, ite_true, ite_false, Bool.false_eq_true, if_true, if_false, true_and, and_true, false_and, Bool.not_true, Bool.not_false, beq_self_eq_true])
      refine hn (fun z => ?_) ?_
      · rcases z with z | ⟨_, z⟩
        · omega
        · cases z
      · unfold lng
        rw [if_neg (by omega), if_neg (by omega), if_neg (by omega)]
    | cons x t =>
      (try simp only [fAsg, fPar, fPar2, fPar3, fIfS, fRet, fRetN, fDrop, fNil, fBreak, fCont, fAugN, fAugF, fApp, fRaise, mvL, moved, eVar, eVal, eOp2, eOp1, eTup, eLst, eNew, eIf, eAnd2, eOr2, eNot1, eFrz, asD, asB, eFld, eCall, eMake, eMeth, eSl, oNone, oSome, aNil, aCons, lNil, lCons, gNm, gNmS, gFd, gIx, gTp, gsNil, gsCons, tTru, tBool, tAnd2, tOr2, tNot1, tYesD, addM_i, addM_s, addM_t, addM_oo, addM_bo, addM_ob, addM_lo, addM_ol, addM_ll, subM_i, mulM_i, mulM_o, mulT_t, fdivM_i, modM_i, intAddM_i, cmpM_i, min2M_i, max2M_i, negM_i, absM_i, toIntM_i, isnM_any, isN, eqM_i, eqM_b, eqM_s, eqM_t, ixM_t, ixM_o, ixM_l, ixM_k, ixM_r, ixM_b, truM_b, truM_i, truM_n, truM_t, truM_o, lenM, sumM, sumA, tupM, listM, slM, lget, lgetR, lput, iRng1D, iRng2D, iSeq, itOf, eDnew, eDic, eDgt, dgtC, dgM, gDk, keyD, asD, neNilM, List.map_cons, List.map_nil, List.replicate_zero, List.replicate_succ, List.cons_append, List.nil_append, List.append_nil, List.getElem?_cons_succ, List.getElem?_cons_zero, List.set_cons_zero, List.set_cons_succ, List.length_cons, List.length_nil, Nat.reduceAdd, Nat.reduceSub, Nat.reduceLT, Nat.reduceLeDiff, Nat.sub_self, decide_eq_true_eq, sz0, sz1, sz2, sz3, sz4, sz5, sz6, sz7, sz8, ok_int, ok_bl, ok_non, ok_tup, ok_lst, eqb_int, eqb_bl, at0, at1, at2, at3, at4, at5, beq_iff_eq, ite_true, ite_false, Bool.false_eq_true, if_true, if_false, true_and, and_true, false_and, Bool.not_true, Bool.not_false])
      rw [if_pos (by omega)]
      by_cases x0 : x = 0
      · rw [if_pos x0]
        unfold fRaiseL
        (try simp only [fAsg, fPar, fPar2, fPar3, fIfS, fRet, fRetN, fDrop, fNil, fBreak, fCont, fAugN, fAugF, fApp, fRaise, mvL, moved, eVar, eVal, eOp2, eOp1, eTup, eLst, eNew, eIf, eAnd2, eOr2, eNot1, eFrz, asD, asB, eFld, eCall, eMake, eMeth, eSl, oNone, oSome, aNil, aCons, lNil, lCons, gNm, gNmS, gFd, gIx, gTp, gsNil, gsCons, tTru, tBool, tAnd2, tOr2, tNot1, tYesD, addM_i, addM_s, addM_t, addM_oo, addM_bo, addM_ob, addM_lo, addM_ol, addM_ll, subM_i, mulM_i, mulM_o, mulT_t, fdivM_i, modM_i, intAddM_i, cmpM_i, min2M_i, max2M_i, negM_i, absM_i, toIntM_i, isnM_any, isN, eqM_i, eqM_b, eqM_s, eqM_t, ixM_t, ixM_o, ixM_l, ixM_k, ixM_r, ixM_b, truM_b, truM_i, truM_n, truM_t, truM_o, lenM, sumM, sumA, tupM, listM, slM, lget, lgetR, lput, iRng1D, iRng2D, iSeq, itOf, eDnew, eDic, eDgt, dgtC, dgM, gDk, keyD, asD, neNilM, List.map_cons, List.map_nil, List.replicate_zero, List.replicate_succ, List.cons_append, List.nil_append, List.append_nil, List.getElem?_cons_succ, List.getElem?_cons_zero, List.set_cons_zero, List.set_cons_succ, List.length_cons, List.length_nil, Nat.reduceAdd, Nat.reduceSub, Nat.reduceLT, Nat.reduceLeDiff, Nat.sub_self, decide_eq_true_eq, sz0, sz1, sz2, sz3, sz4, sz5, sz6, sz7, sz8, ok_int, ok_bl, ok_non, ok_tup, ok_lst, eqb_int, eqb_bl, at0, at1, at2, at3, at4, at5, beq_iff_eq, ite_true, ite_false, Bool.false_eq_true, if_true, if_false, true_and, and_true, false_and, Bool.not_true, Bool.not_false])
        exact hb (.inr ⟨.inr (.inr e), by rw [x0]; rfl⟩)
      · rw [if_neg x0]
        refine fCons.go ?_
        (try simp only [fAsg, fPar, fPar2, fPar3, fIfS, fRet, fRetN, fDrop, fNil, fBreak, fCont, fAugN, fAugF, fApp, fRaise, mvL, moved, eVar, eVal, eOp2, eOp1, eTup, eLst, eNew, eIf, eAnd2, eOr2, eNot1, eFrz, asD, asB, eFld, eCall, eMake, eMeth, eSl, oNone, oSome, aNil, aCons, lNil, lCons, gNm, gNmS, gFd, gIx, gTp, gsNil, gsCons, tTru, tBool, tAnd2, tOr2, tNot1, tYesD, addM_i, addM_s, addM_t, addM_oo, addM_bo, addM_ob, addM_lo, addM_ol, addM_ll, subM_i, mulM_i, mulM_o, mulT_t, fdivM_i, modM_i, intAddM_i, cmpM_i, min2M_i, max2M_i, negM_i, absM_i, toIntM_i, isnM_any, isN, eqM_i, eqM_b, eqM_s, eqM_t, ixM_t, ixM_o, ixM_l, ixM_k, ixM_r, ixM_b, truM_b, truM_i, truM_n, truM_t, truM_o, lenM, sumM, sumA, tupM, listM, slM, lget, lgetR, lput, iRng1D, iRng2D, iSeq, itOf, eDnew, eDic, eDgt, dgtC, dgM, gDk, keyD, asD, neNilM, List.map_cons, List.map_nil, List.replicate_zero, List.replicate_succ, List.cons_append, List.nil_append, List.append_nil, List.getElem?_cons_succ, List.getElem?_cons_zero, List.set_cons_zero, List.set_cons_succ, List.length_cons, List.length_nil, Nat.reduceAdd, Nat.reduceSub, Nat.reduceLT, Nat.reduceLeDiff, Nat.sub_self, decide_eq_true_eq, sz0, sz1, sz2, sz3, sz4, sz5, sz6, sz7, sz8, ok_int, ok_bl, ok_non, ok_tup, ok_lst, eqb_int, eqb_bl, at0, at1, at2, at3, at4, at5, beq_iff_eq, ite_true, ite_false, Bool.false_eq_true, if_true, if_false, true_and, and_true, false_and, Bool.not_true, Bool.not_false, beq_self_eq_true])
        rw [if_pos (by omega)]
        (try simp only [fAsg, fPar, fPar2, fPar3, fIfS, fRet, fRetN, fDrop, fNil, fBreak, fCont, fAugN, fAugF, fApp, fRaise, mvL, moved, eVar, eVal, eOp2, eOp1, eTup, eLst, eNew, eIf, eAnd2, eOr2, eNot1, eFrz, asD, asB, eFld, eCall, eMake, eMeth, eSl, oNone, oSome, aNil, aCons, lNil, lCons, gNm, gNmS, gFd, gIx, gTp, gsNil, gsCons, tTru, tBool, tAnd2, tOr2, tNot1, tYesD, addM_i, addM_s, addM_t, addM_oo, addM_bo, addM_ob, addM_lo, addM_ol, addM_ll, subM_i, mulM_i, mulM_o, mulT_t, fdivM_i, modM_i, intAddM_i, cmpM_i, min2M_i, max2M_i, negM_i, absM_i, toIntM_i, isnM_any, isN, eqM_i, eqM_b, eqM_s, eqM_t, ixM_t, ixM_o, ixM_l, ixM_k, ixM_r, ixM_b, truM_b, truM_i, truM_n, truM_t, truM_o, lenM, sumM, sumA, tupM, listM, slM, lget, lgetR, lput, iRng1D, iRng2D, iSeq, itOf, eDnew, eDic, eDgt, dgtC, dgM, gDk, keyD, asD, neNilM, List.map_cons, List.map_nil, List.replicate_zero, List.replicate_succ, List.cons_append, List.nil_append, List.append_nil, List.getElem?_cons_succ, List.getElem?_cons_zero, List.set_cons_zero, List.set_cons_succ, List.length_cons, List.length_nil, Nat.reduceAdd, Nat.reduceSub, Nat.reduceLT, Nat.reduceLeDiff, Nat.sub_self, decide_eq_true_eq, sz0, sz1, sz2, sz3, sz4, sz5, sz6, sz7, sz8, ok_int, ok_bl, ok_non, ok_tup, ok_lst, eqb_int, eqb_bl, at0, at1, at2, at3, at4, at5, beq_iff_eq, ite_true, ite_false, Bool.false_eq_true, if_true, if_false, true_and, and_true, false_and, Bool.not_true, Bool.not_false])
        have lg : lng h (x :: t) = 2 + x := by
          unfold lng
          rw [if_neg (by omega), if_neg (by omega), if_neg (by omega)]
        have := o x List.mem_cons_self
        rw [← lg]
        refine hi (fun z => ?_) (by rw [lg]; omega)
        rcases z with z | ⟨_, z⟩
        · omega
        · exact x0 (Option.some.inj z)
  · (try simp only [fAsg, fPar, fPar2, fPar3, fIfS, fRet, fRetN, fDrop, fNil, fBreak, fCont, fAugN, fAugF, fApp, fRaise, mvL, moved, eVar, eVal, eOp2, eOp1, eTup, eLst, eNew, eIf, eAnd2, eOr2, eNot1, eFrz, asD, asB, eFld, eCall, eMake, eMeth, eSl, oNone, oSome, aNil, aCons, lNil, lCons, gNm, gNmS, gFd, gIx, gTp, gsNil, gsCons, tTru, tBool, tAnd2, tOr2, tNot1, tYesD, addM_i, addM_s, addM_t, addM_oo, addM_bo, addM_ob, addM_lo, addM_ol, addM_ll, subM_i, mulM_i, mulM_o, mulT_t, fdivM_i, modM_i, intAddM_i, cmpM_i, min2M_i, max2M_i, negM_i, absM_i, toIntM_i, isnM_any, isN, eqM_i, eqM_b, eqM_s, eqM_t, ixM_t, ixM_o, ixM_l, ixM_k, ixM_r, ixM_b, truM_b, truM_i, truM_n, truM_t, truM_o, lenM, sumM, sumA, tupM, listM, slM, lget, lgetR, lput, iRng1D, iRng2D, iSeq, itOf, eDnew, eDic, eDgt, dgtC, dgM, gDk, keyD, asD, neNilM, List.map_cons, List.map_nil, List.replicate_zero, List.replicate_succ, List.cons_append, List.nil_append, List.append_nil, List.getElem?_cons_succ, List.getElem?_cons_zero, List.set_cons_zero, List.set_cons_succ, List.length_cons, List.length_nil, Nat.reduceAdd, Nat.reduceSub, Nat.reduceLT, Nat.reduceLeDiff, Nat.sub_self, decide_eq_true_eq, sz0, sz1, sz2, sz3, sz4, sz5, sz6, sz7, sz8, ok_int, ok_bl, ok_non, ok_tup, ok_lst, eqb_int, eqb_bl, at0, at1, at2, at3, at4, at5, beq_iff_eq, ite_true, ite_false, Bool.false_eq_true, if_true, if_false, true_and, and_true, false_and, Bool.not_true, Bool.not_false, e])
    refine ⟨by decide, fCons.go ?_⟩
    (try simp only [fAsg, fPar, fPar2, fPar3, fIfS, fRet, fRetN, fDrop, fNil, fBreak, fCont, fAugN, fAugF, fApp, fRaise, mvL, moved, eVar, eVal, eOp2, eOp1, eTup, eLst, eNew, eIf, eAnd2, eOr2, eNot1, eFrz, asD, asB, eFld, eCall, eMake, eMeth, eSl, oNone, oSome, aNil, aCons, lNil, lCons, gNm, gNmS, gFd, gIx, gTp, gsNil, gsCons, tTru, tBool, tAnd2, tOr2, tNot1, tYesD, addM_i, addM_s, addM_t, addM_oo, addM_bo, addM_ob, addM_lo, addM_ol, addM_ll, subM_i, mulM_i, mulM_o, mulT_t, fdivM_i, modM_i, intAddM_i, cmpM_i, min2M_i, max2M_i, negM_i, absM_i, toIntM_i, isnM_any, isN, eqM_i, eqM_b, eqM_s, eqM_t, ixM_t, ixM_o, ixM_l, ixM_k, ixM_r, ixM_b, truM_b, truM_i, truM_n, truM_t, truM_o, lenM, sumM, sumA, tupM, listM, slM, lget, lgetR, lput, iRng1D, iRng2D, iSeq, itOf, eDnew, eDic, eDgt, dgtC, dgM, gDk, keyD, asD, neNilM, List.map_cons, List.map_nil, List.replicate_zero, List.replicate_succ, List.cons_append, List.nil_append, List.append_nil, List.getElem?_cons_succ, List.getElem?_cons_zero, List.set_cons_zero, List.set_cons_succ, List.length_cons, List.length_nil, Nat.reduceAdd, Nat.reduceSub, Nat.reduceLT, Nat.reduceLeDiff, Nat.sub_self, decide_eq_true_eq, sz0, sz1, sz2, sz3, sz4, sz5, sz6, sz7, sz8, ok_int, ok_bl, ok_non, ok_tup, ok_lst, eqb_int, eqb_bl, at0, at1, at2, at3, at4, at5, beq_iff_eq, ite_true, ite_false, Bool.false_eq_true, if_true, if_false, true_and, and_true, false_and, Bool.not_true, Bool.not_false, k1])
    refine ⟨mulOk_r (by decide) (by decide), ?_⟩
    by_cases q : 4 * 8 ≤ h
    · rw [if_pos q]
      unfold fRaiseL
      (try simp only [fAsg, fPar, fPar2, fPar3, fIfS, fRet, fRetN, fDrop, fNil, fBreak, fCont, fAugN, fAugF, fApp, fRaise, mvL, moved, eVar, eVal, eOp2, eOp1, eTup, eLst, eNew, eIf, eAnd2, eOr2, eNot1, eFrz, asD, asB, eFld, eCall, eMake, eMeth, eSl, oNone, oSome, aNil, aCons, lNil, lCons, gNm, gNmS, gFd, gIx, gTp, gsNil, gsCons, tTru, tBool, tAnd2, tOr2, tNot1, tYesD, addM_i, addM_s, addM_t, addM_oo, addM_bo, addM_ob, addM_lo, addM_ol, addM_ll, subM_i, mulM_i, mulM_o, mulT_t, fdivM_i, modM_i, intAddM_i, cmpM_i, min2M_i, max2M_i, negM_i, absM_i, toIntM_i, isnM_any, isN, eqM_i, eqM_b, eqM_s, eqM_t, ixM_t, ixM_o, ixM_l, ixM_k, ixM_r, ixM_b, truM_b, truM_i, truM_n, truM_t, truM_o, lenM, sumM, sumA, tupM, listM, slM, lget, lgetR, lput, iRng1D, iRng2D, iSeq, itOf, eDnew, eDic, eDgt, dgtC, dgM, gDk, keyD, asD, neNilM, List.map_cons, List.map_nil, List.replicate_zero, List.replicate_succ, List.cons_append, List.nil_append, List.append_nil, List.getElem?_cons_succ, List.getElem?_cons_zero, List.set_cons_zero, List.set_cons_succ, List.length_cons, List.length_nil, Nat.reduceAdd, Nat.reduceSub, Nat.reduceLT, Nat.reduceLeDiff, Nat.sub_self, decide_eq_true_eq, sz0, sz1, sz2, sz3, sz4, sz5, sz6, sz7, sz8, ok_int, ok_bl, ok_non, ok_tup, ok_lst, eqb_int, eqb_bl, at0, at1, at2, at3, at4, at5, beq_iff_eq, ite_true, ite_false, Bool.false_eq_true, if_true, if_false, true_and, and_true, false_and, Bool.not_true, Bool.not_false])
      exact big (by omega)
    rw [if_neg q]
    refine fCons.go ?_
    (try simp only [fAsg, fPar, fPar2, fPar3, fIfS, fRet, fRetN, fDrop, fNil, fBreak, fCont, fAugN, fAugF, fApp, fRaise, mvL, moved, eVar, eVal, eOp2, eOp1, eTup, eLst, eNew, eIf, eAnd2, eOr2, eNot1, eFrz, asD, asB, eFld, eCall, eMake, eMeth, eSl, oNone, oSome, aNil, aCons, lNil, lCons, gNm, gNmS, gFd, gIx, gTp, gsNil, gsCons, tTru, tBool, tAnd2, tOr2, tNot1, tYesD, addM_i, addM_s, addM_t, addM_oo, addM_bo, addM_ob, addM_lo, addM_ol, addM_ll, subM_i, mulM_i, mulM_o, mulT_t, fdivM_i, modM_i, intAddM_i, cmpM_i, min2M_i, max2M_i, negM_i, absM_i, toIntM_i, isnM_any, isN, eqM_i, eqM_b, eqM_s, eqM_t, ixM_t, ixM_o, ixM_l, ixM_k, ixM_r, ixM_b, truM_b, truM_i, truM_n, truM_t, truM_o, lenM, sumM, sumA, tupM, listM, slM, lget, lgetR, lput, iRng1D, iRng2D, iSeq, itOf, eDnew, eDic, eDgt, dgtC, dgM, gDk, keyD, asD, neNilM, List.map_cons, List.map_nil, List.replicate_zero, List.replicate_succ, List.cons_append, List.nil_append, List.append_nil, List.getElem?_cons_succ, List.getElem?_cons_zero, List.set_cons_zero, List.set_cons_succ, List.length_cons, List.length_nil, Nat.reduceAdd, Nat.reduceSub, Nat.reduceLT, Nat.reduceLeDiff, Nat.sub_self, decide_eq_true_eq, sz0, sz1, sz2, sz3, sz4, sz5, sz6, sz7, sz8, ok_int, ok_bl, ok_non, ok_tup, ok_lst, eqb_int, eqb_bl, at0, at1, at2, at3, at4, at5, beq_iff_eq, ite_true, ite_false, Bool.false_eq_true, if_true, if_false, true_and, and_true, false_and, Bool.not_true, Bool.not_false, k1])
    rw [if_neg (by decide)]
    have lg : lng h t = 1 := by
      unfold lng
      rw [if_neg (by omega), if_pos (by omega)]
    rw [lg] at hi
    refine hi (fun z => ?_) (by decide)
    rcases z with z | ⟨z, _⟩ <;> omega
  · (try simp only [fAsg, fPar, fPar2, fPar3, fIfS, fRet, fRetN, fDrop, fNil, fBreak, fCont, fAugN, fAugF, fApp, fRaise, mvL, moved, eVar, eVal, eOp2, eOp1, eTup, eLst, eNew, eIf, eAnd2, eOr2, eNot1, eFrz, asD, asB, eFld, eCall, eMake, eMeth, eSl, oNone, oSome, aNil, aCons, lNil, lCons, gNm, gNmS, gFd, gIx, gTp, gsNil, gsCons, tTru, tBool, tAnd2, tOr2, tNot1, tYesD, addM_i, addM_s, addM_t, addM_oo, addM_bo, addM_ob, addM_lo, addM_ol, addM_ll, subM_i, mulM_i, mulM_o, mulT_t, fdivM_i, modM_i, intAddM_i, cmpM_i, min2M_i, max2M_i, negM_i, absM_i, toIntM_i, isnM_any, isN, eqM_i, eqM_b, eqM_s, eqM_t, ixM_t, ixM_o, ixM_l, ixM_k, ixM_r, ixM_b, truM_b, truM_i, truM_n, truM_t, truM_o, lenM, sumM, sumA, tupM, listM, slM, lget, lgetR, lput, iRng1D, iRng2D, iSeq, itOf, eDnew, eDic, eDgt, dgtC, dgM, gDk, keyD, asD, neNilM, List.map_cons, List.map_nil, List.replicate_zero, List.replicate_succ, List.cons_append, List.nil_append, List.append_nil, List.getElem?_cons_succ, List.getElem?_cons_zero, List.set_cons_zero, List.set_cons_succ, List.length_cons, List.length_nil, Nat.reduceAdd, Nat.reduceSub, Nat.reduceLT, Nat.reduceLeDiff, Nat.sub_self, decide_eq_true_eq, sz0, sz1, sz2, sz3, sz4, sz5, sz6, sz7, sz8, ok_int, ok_bl, ok_non, ok_tup, ok_lst, eqb_int, eqb_bl, at0, at1, at2, at3, at4, at5, beq_iff_eq, ite_true, ite_false, Bool.false_eq_true, if_true, if_false, true_and, and_true, false_and, Bool.not_true, Bool.not_false, e])
    refine ⟨by decide, fCons.go ?_⟩
    (try simp only [fAsg, fPar, fPar2, fPar3, fIfS, fRet, fRetN, fDrop, fNil, fBreak, fCont, fAugN, fAugF, fApp, fRaise, mvL, moved, eVar, eVal, eOp2, eOp1, eTup, eLst, eNew, eIf, eAnd2, eOr2, eNot1, eFrz, asD, asB, eFld, eCall, eMake, eMeth, eSl, oNone, oSome, aNil, aCons, lNil, lCons, gNm, gNmS, gFd, gIx, gTp, gsNil, gsCons, tTru, tBool, tAnd2, tOr2, tNot1, tYesD, addM_i, addM_s, addM_t, addM_oo, addM_bo, addM_ob, addM_lo, addM_ol, addM_ll, subM_i, mulM_i, mulM_o, mulT_t, fdivM_i, modM_i, intAddM_i, cmpM_i, min2M_i, max2M_i, negM_i, absM_i, toIntM_i, isnM_any, isN, eqM_i, eqM_b, eqM_s, eqM_t, ixM_t, ixM_o, ixM_l, ixM_k, ixM_r, ixM_b, truM_b, truM_i, truM_n, truM_t, truM_o, lenM, sumM, sumA, tupM, listM, slM, lget, lgetR, lput, iRng1D, iRng2D, iSeq, itOf, eDnew, eDic, eDgt, dgtC, dgM, gDk, keyD, asD, neNilM, List.map_cons, List.map_nil, List.replicate_zero, List.replicate_succ, List.cons_append, List.nil_append, List.append_nil, List.getElem?_cons_succ, List.getElem?_cons_zero, List.set_cons_zero, List.set_cons_succ, List.length_cons, List.length_nil, Nat.reduceAdd, Nat.reduceSub, Nat.reduceLT, Nat.reduceLeDiff, Nat.sub_self, decide_eq_true_eq, sz0, sz1, sz2, sz3, sz4, sz5, sz6, sz7, sz8, ok_int, ok_bl, ok_non, ok_tup, ok_lst, eqb_int, eqb_bl, at0, at1, at2, at3, at4, at5, beq_iff_eq, ite_true, ite_false, Bool.false_eq_true, if_true, if_false, true_and, and_true, false_and, Bool.not_true, Bool.not_false, k2])
    refine ⟨mulOk_r (by decide) (by decide), ?_⟩
    by_cases q : 4 * 8 ≤ h
    · rw [if_pos q]
      unfold fRaiseL
      (try simp only [fAsg, fPar, fPar2, fPar3, fIfS, fRet, fRetN, fDrop, fNil, fBreak, fCont, fAugN, fAugF, fApp, fRaise, mvL, moved, eVar, eVal, eOp2, eOp1, eTup, eLst, eNew, eIf, eAnd2, eOr2, eNot1, eFrz, asD, asB, eFld, eCall, eMake, eMeth, eSl, oNone, oSome, aNil, aCons, lNil, lCons, gNm, gNmS, gFd, gIx, gTp, gsNil, gsCons, tTru, tBool, tAnd2, tOr2, tNot1, tYesD, addM_i, addM_s, addM_t, addM_oo, addM_bo, addM_ob, addM_lo, addM_ol, addM_ll, subM_i, mulM_i, mulM_o, mulT_t, fdivM_i, modM_i, intAddM_i, cmpM_i, min2M_i, max2M_i, negM_i, absM_i, toIntM_i, isnM_any, isN, eqM_i, eqM_b, eqM_s, eqM_t, ixM_t, ixM_o, ixM_l, ixM_k, ixM_r, ixM_b, truM_b, truM_i, truM_n, truM_t, truM_o, lenM, sumM, sumA, tupM, listM, slM, lget, lgetR, lput, iRng1D, iRng2D, iSeq, itOf, eDnew, eDic, eDgt, dgtC, dgM, gDk, keyD, asD, neNilM, List.map_cons, List.map_nil, List.replicate_zero, List.replicate_succ, List.cons_append, List.nil_append, List.append_nil, List.getElem?_cons_succ, List.getElem?_cons_zero, List.set_cons_zero, List.set_cons_succ, List.length_cons, List.length_nil, Nat.reduceAdd, Nat.reduceSub, Nat.reduceLT, Nat.reduceLeDiff, Nat.sub_self, decide_eq_true_eq, sz0, sz1, sz2, sz3, sz4, sz5, sz6, sz7, sz8, ok_int, ok_bl, ok_non, ok_tup, ok_lst, eqb_int, eqb_bl, at0, at1, at2, at3, at4, at5, beq_iff_eq, ite_true, ite_false, Bool.false_eq_true, if_true, if_false, true_and, and_true, false_and, Bool.not_true, Bool.not_false])
      exact big (by omega)
    rw [if_neg q]
    refine fCons.go ?_
    (try simp only [fAsg, fPar, fPar2, fPar3, fIfS, fRet, fRetN, fDrop, fNil, fBreak, fCont, fAugN, fAugF, fApp, fRaise, mvL, moved, eVar, eVal, eOp2, eOp1, eTup, eLst, eNew, eIf, eAnd2, eOr2, eNot1, eFrz, asD, asB, eFld, eCall, eMake, eMeth, eSl, oNone, oSome, aNil, aCons, lNil, lCons, gNm, gNmS, gFd, gIx, gTp, gsNil, gsCons, tTru, tBool, tAnd2, tOr2, tNot1, tYesD, addM_i, addM_s, addM_t, addM_oo, addM_bo, addM_ob, addM_lo, addM_ol, addM_ll, subM_i, mulM_i, mulM_o, mulT_t, fdivM_i, modM_i, intAddM_i, cmpM_i, min2M_i, max2M_i, negM_i, absM_i, toIntM_i, isnM_any, isN, eqM_i, eqM_b, eqM_s, eqM_t, ixM_t, ixM_o, ixM_l, ixM_k, ixM_r, ixM_b, truM_b, truM_i, truM_n, truM_t, truM_o, lenM, sumM, sumA, tupM, listM, slM, lget, lgetR, lput, iRng1D, iRng2D, iSeq, itOf, eDnew, eDic, eDgt, dgtC, dgM, gDk, keyD, asD, neNilM, List.map_cons, List.map_nil, List.replicate_zero, List.replicate_succ, List.cons_append, List.nil_append, List.append_nil, List.getElem?_cons_succ, List.getElem?_cons_zero, List.set_cons_zero, List.set_cons_succ, List.length_cons, List.length_nil, Nat.reduceAdd, Nat.reduceSub, Nat.reduceLT, Nat.reduceLeDiff, Nat.sub_self, decide_eq_true_eq, sz0, sz1, sz2, sz3, sz4, sz5, sz6, sz7, sz8, ok_int, ok_bl, ok_non, ok_tup, ok_lst, eqb_int, eqb_bl, at0, at1, at2, at3, at4, at5, beq_iff_eq, ite_true, ite_false, Bool.false_eq_true, if_true, if_false, true_and, and_true, false_and, Bool.not_true, Bool.not_false, k2])
    rw [if_neg (by decide)]
    have lg : lng h t = 1 := by
      unfold lng
      rw [if_neg (by omega), if_pos (by omega)]
    rw [lg] at hi
    refine hi (fun z => ?_) (by decide)
    rcases z with z | ⟨z, _⟩ <;> omega
  · (try simp only [fAsg, fPar, fPar2, fPar3, fIfS, fRet, fRetN, fDrop, fNil, fBreak, fCont, fAugN, fAugF, fApp, fRaise, mvL, moved, eVar, eVal, eOp2, eOp1, eTup, eLst, eNew, eIf, eAnd2, eOr2, eNot1, eFrz, asD, asB, eFld, eCall, eMake, eMeth, eSl, oNone, oSome, aNil, aCons, lNil, lCons, gNm, gNmS, gFd, gIx, gTp, gsNil, gsCons, tTru, tBool, tAnd2, tOr2, tNot1, tYesD, addM_i, addM_s, addM_t, addM_oo, addM_bo, addM_ob, addM_lo, addM_ol, addM_ll, subM_i, mulM_i, mulM_o, mulT_t, fdivM_i, modM_i, intAddM_i, cmpM_i, min2M_i, max2M_i, negM_i, absM_i, toIntM_i, isnM_any, isN, eqM_i, eqM_b, eqM_s, eqM_t, ixM_t, ixM_o, ixM_l, ixM_k, ixM_r, ixM_b, truM_b, truM_i, truM_n, truM_t, truM_o, lenM, sumM, sumA, tupM, listM, slM, lget, lgetR, lput, iRng1D, iRng2D, iSeq, itOf, eDnew, eDic, eDgt, dgtC, dgM, gDk, keyD, asD, neNilM, List.map_cons, List.map_nil, List.replicate_zero, List.replicate_succ, List.cons_append, List.nil_append, List.append_nil, List.getElem?_cons_succ, List.getElem?_cons_zero, List.set_cons_zero, List.set_cons_succ, List.length_cons, List.length_nil, Nat.reduceAdd, Nat.reduceSub, Nat.reduceLT, Nat.reduceLeDiff, Nat.sub_self, decide_eq_true_eq, sz0, sz1, sz2, sz3, sz4, sz5, sz6, sz7, sz8, ok_int, ok_bl, ok_non, ok_tup, ok_lst, eqb_int, eqb_bl, at0, at1, at2, at3, at4, at5, beq_iff_eq, ite_true, ite_false, Bool.false_eq_true, if_true, if_false, true_and, and_true, false_and, Bool.not_true, Bool.not_false, e])
    refine ⟨by decide, fCons.go ?_⟩
    (try simp only [fAsg, fPar, fPar2, fPar3, fIfS, fRet, fRetN, fDrop, fNil, fBreak, fCont, fAugN, fAugF, fApp, fRaise, mvL, moved, eVar, eVal, eOp2, eOp1, eTup, eLst, eNew, eIf, eAnd2, eOr2, eNot1, eFrz, asD, asB, eFld, eCall, eMake, eMeth, eSl, oNone, oSome, aNil, aCons, lNil, lCons, gNm, gNmS, gFd, gIx, gTp, gsNil, gsCons, tTru, tBool, tAnd2, tOr2, tNot1, tYesD, addM_i, addM_s, addM_t, addM_oo, addM_bo, addM_ob, addM_lo, addM_ol, addM_ll, subM_i, mulM_i, mulM_o, mulT_t, fdivM_i, modM_i, intAddM_i, cmpM_i, min2M_i, max2M_i, negM_i, absM_i, toIntM_i, isnM_any, isN, eqM_i, eqM_b, eqM_s, eqM_t, ixM_t, ixM_o, ixM_l, ixM_k, ixM_r, ixM_b, truM_b, truM_i, truM_n, truM_t, truM_o, lenM, sumM, sumA, tupM, listM, slM, lget, lgetR, lput, iRng1D, iRng2D, iSeq, itOf, eDnew, eDic, eDgt, dgtC, dgM, gDk, keyD, asD, neNilM, List.map_cons, List.map_nil, List.replicate_zero, List.replicate_succ, List.cons_append, List.nil_append, List.append_nil, List.getElem?_cons_succ, List.getElem?_cons_zero, List.set_cons_zero, List.set_cons_succ, List.length_cons, List.length_nil, Nat.reduceAdd, Nat.reduceSub, Nat.reduceLT, Nat.reduceLeDiff, Nat.sub_self, decide_eq_true_eq, sz0, sz1, sz2, sz3, sz4, sz5, sz6, sz7, sz8, ok_int, ok_bl, ok_non, ok_tup, ok_lst, eqb_int, eqb_bl, at0, at1, at2, at3, at4, at5, beq_iff_eq, ite_true, ite_false, Bool.false_eq_true, if_true, if_false, true_and, and_true, false_and, Bool.not_true, Bool.not_false, k3])
    refine ⟨mulOk_r (by decide) (by decide), ?_⟩
    by_cases q : 4 * 8 ≤ h
    · rw [if_pos q]
      unfold fRaiseL
      (try simp only [fAsg, fPar, fPar2, fPar3, fIfS, fRet, fRetN, fDrop, fNil, fBreak, fCont, fAugN, fAugF, fApp, fRaise, mvL, moved, eVar, eVal, eOp2, eOp1, eTup, eLst, eNew, eIf, eAnd2, eOr2, eNot1, eFrz, asD, asB, eFld, eCall, eMake, eMeth, eSl, oNone, oSome, aNil, aCons, lNil, lCons, gNm, gNmS, gFd, gIx, gTp, gsNil, gsCons, tTru, tBool, tAnd2, tOr2, tNot1, tYesD, addM_i, addM_s, addM_t, addM_oo, addM_bo, addM_ob, addM_lo, addM_ol, addM_ll, subM_i, mulM_i, mulM_o, mulT_t, fdivM_i, modM_i, intAddM_i, cmpM_i, min2M_i, max2M_i, negM_i, absM_i, toIntM_i, isnM_any, isN, eqM_i, eqM_b, eqM_s, eqM_t, ixM_t, ixM_o, ixM_l, ixM_k, ixM_r, ixM_b, truM_b, truM_i, truM_n, truM_t, truM_o, lenM, sumM, sumA, tupM, listM, slM, lget, lgetR, lput, iRng1D, iRng2D, iSeq, itOf, eDnew, eDic, eDgt, dgtC, dgM, gDk, keyD, asD, neNilM, List.map_cons, List.map_nil, List.replicate_zero, List.replicate_succ, List.cons_append, List.nil_append, List.append_nil, List.getElem?_cons_succ, List.getElem?_cons_zero, List.set_cons_zero, List.set_cons_succ, List.length_cons, List.length_nil, Nat.reduceAdd, Nat.reduceSub, Nat.reduceLT, Nat.reduceLeDiff, Nat.sub_self, decide_eq_true_eq, sz0, sz1, sz2, sz3, sz4, sz5, sz6, sz7, sz8, ok_int, ok_bl, ok_non, ok_tup, ok_lst, eqb_int, eqb_bl, at0, at1, at2, at3, at4, at5, beq_iff_eq, ite_true, ite_false, Bool.false_eq_true, if_true, if_false, true_and, and_true, false_and, Bool.not_true, Bool.not_false])
      exact big (by omega)
    rw [if_neg q]
    refine fCons.go ?_
    (try simp only [fAsg, fPar, fPar2, fPar3, fIfS, fRet, fRetN, fDrop, fNil, fBreak, fCont, fAugN, fAugF, fApp, fRaise, mvL, moved, eVar, eVal, eOp2, eOp1, eTup, eLst, eNew, eIf, eAnd2, eOr2, eNot1, eFrz, asD, asB, eFld, eCall, eMake, eMeth, eSl, oNone, oSome, aNil, aCons, lNil, lCons, gNm, gNmS, gFd, gIx, gTp, gsNil, gsCons, tTru, tBool, tAnd2, tOr2, tNot1, tYesD, addM_i, addM_s, addM_t, addM_oo, addM_bo, addM_ob, addM_lo, addM_ol, addM_ll, subM_i, mulM_i, mulM_o, mulT_t, fdivM_i, modM_i, intAddM_i, cmpM_i, min2M_i, max2M_i, negM_i, absM_i, toIntM_i, isnM_any, isN, eqM_i, eqM_b, eqM_s, eqM_t, ixM_t, ixM_o, ixM_l, ixM_k, ixM_r, ixM_b, truM_b, truM_i, truM_n, truM_t, truM_o, lenM, sumM, sumA, tupM, listM, slM, lget, lgetR, lput, iRng1D, iRng2D, iSeq, itOf, eDnew, eDic, eDgt, dgtC, dgM, gDk, keyD, asD, neNilM, List.map_cons, List.map_nil, List.replicate_zero, List.replicate_succ, List.cons_append, List.nil_append, List.append_nil, List.getElem?_cons_succ, List.getElem?_cons_zero, List.set_cons_zero, List.set_cons_succ, List.length_cons, List.length_nil, Nat.reduceAdd, Nat.reduceSub, Nat.reduceLT, Nat.reduceLeDiff, Nat.sub_self, decide_eq_true_eq, sz0, sz1, sz2, sz3, sz4, sz5, sz6, sz7, sz8, ok_int, ok_bl, ok_non, ok_tup, ok_lst, eqb_int, eqb_bl, at0, at1, at2, at3, at4, at5, beq_iff_eq, ite_true, ite_false, Bool.false_eq_true, if_true, if_false, true_and, and_true, false_and, Bool.not_true, Bool.not_false, k3])
    have lg : lng h t = 3 := by
      unfold lng
      rw [if_neg (by omega), if_neg (by omega), if_pos (by omega)]
    rw [lg] at hi
    refine hi (fun z => ?_) (by decide)
    rcases z with z | ⟨z, _⟩ <;> omega
theorem bad_no {h : Int} {t : List Int} (h1 : h = 33 ∨ h = 32) (h2 : t.head? ≠ some 0) : ¬ bad h t := fun z => by
  rcases z with z | ⟨_, z⟩
  · omega
  · exact h2 z
theorem wl_ {h : Int} {t : List Int} (hb : bad h t → E (bf a) μ) (hn : ¬ bad h t → (lng h t = 0 ∨ (t.length : Int) + 1 < lng h t) → C (.val .non) μ) (hi : ¬ bad h t → 1 ≤ lng h t → C (.val (.int (lng h t))) μ) (o : Oc t) (hl : t.length ≤ 900) : d_whole_length K a [tupI (h :: t)] μ C E := by
  refine ⟨rfl, fCons.go ?_⟩
  unfold tupI
  (try simp only [fAsg, fPar, fPar2, fPar3, fIfS, fRet, fRetN, fDrop, fNil, fBreak, fCont, fAugN, fAugF, fApp, fRaise, mvL, moved, eVar, eVal, eOp2, eOp1, eTup, eLst, eNew, eIf, eAnd2, eOr2, eNot1, eFrz, asD, asB, eFld, eCall, eMake, eMeth, eSl, oNone, oSome, aNil, aCons, lNil, lCons, gNm, gNmS, gFd, gIx, gTp, gsNil, gsCons, tTru, tBool, tAnd2, tOr2, tNot1, tYesD, addM_i, addM_s, addM_t, addM_oo, addM_bo, addM_ob, addM_lo, addM_ol, addM_ll, subM_i, mulM_i, mulM_o, mulT_t, fdivM_i, modM_i, intAddM_i, cmpM_i, min2M_i, max2M_i, negM_i, absM_i, toIntM_i, isnM_any, isN, eqM_i, eqM_b, eqM_s, eqM_t, ixM_t, ixM_o, ixM_l, ixM_k, ixM_r, ixM_b, truM_b, truM_i, truM_n, truM_t, truM_o, lenM, sumM, sumA, tupM, listM, slM, lget, lgetR, lput, iRng1D, iRng2D, iSeq, itOf, eDnew, eDic, eDgt, dgtC, dgM, gDk, keyD, asD, neNilM, List.map_cons, List.map_nil, List.replicate_zero, List.replicate_succ, List.cons_append, List.nil_append, List.append_nil, List.getElem?_cons_succ, List.getElem?_cons_zero, List.set_cons_zero, List.set_cons_succ, List.length_cons, List.length_nil, Nat.reduceAdd, Nat.reduceSub, Nat.reduceLT, Nat.reduceLeDiff, Nat.sub_self, decide_eq_true_eq, sz0, sz1, sz2, sz3, sz4, sz5, sz6, sz7, sz8, ok_int, ok_bl, ok_non, ok_tup, ok_lst, eqb_int, eqb_bl, at0, at1, at2, at3, at4, at5, beq_iff_eq, ite_true, ite_false, Bool.false_eq_true, if_true, if_false, true_and, and_true, false_and, Bool.not_true, Bool.not_false, inM, anyD, List.any_cons, List.any_nil, D.flat, List.all_cons, List.all_nil, Bool.and_self])
  by_cases q : h = 33 ∨ h = 32
  · have e : (32 == h || (33 == h || false)) = true := by
      rcases q with q | q <;> rw [q] <;> decide
    (try simp only [fAsg, fPar, fPar2, fPar3, fIfS, fRet, fRetN, fDrop, fNil, fBreak, fCont, fAugN, fAugF, fApp, fRaise, mvL, moved, eVar, eVal, eOp2, eOp1, eTup, eLst, eNew, eIf, eAnd2, eOr2, eNot1, eFrz, asD, asB, eFld, eCall, eMake, eMeth, eSl, oNone, oSome, aNil, aCons, lNil, lCons, gNm, gNmS, gFd, gIx, gTp, gsNil, gsCons, tTru, tBool, tAnd2, tOr2, tNot1, tYesD, addM_i, addM_s, addM_t, addM_oo, addM_bo, addM_ob, addM_lo, addM_ol, addM_ll, subM_i, mulM_i, mulM_o, mulT_t, fdivM_i, modM_i, intAddM_i, cmpM_i, min2M_i, max2M_i, negM_i, absM_i, toIntM_i, isnM_any, isN, eqM_i, eqM_b, eqM_s, eqM_t, ixM_t, ixM_o, ixM_l, ixM_k, ixM_r, ixM_b, truM_b, truM_i, truM_n, truM_t, truM_o, lenM, sumM, sumA, tupM, listM, slM, lget, lgetR, lput, iRng1D, iRng2D, iSeq, itOf, eDnew, eDic, eDgt, dgtC, dgM, gDk, keyD, asD, neNilM, List.map_cons, List.map_nil, List.replicate_zero, List.replicate_succ, List.cons_append, List.nil_append, List.append_nil, List.getElem?_cons_succ, List.getElem?_cons_zero, List.set_cons_zero, List.set_cons_succ, List.length_cons, List.length_nil, Nat.reduceAdd, Nat.reduceSub, Nat.reduceLT, Nat.reduceLeDiff, Nat.sub_self, decide_eq_true_eq, sz0, sz1, sz2, sz3, sz4, sz5, sz6, sz7, sz8, ok_int, ok_bl, ok_non, ok_tup, ok_lst, eqb_int, eqb_bl, at0, at1, at2, at3, at4, at5, beq_iff_eq, ite_true, ite_false, Bool.false_eq_true, if_true, if_false, true_and, and_true, false_and, Bool.not_true, Bool.not_false, e])
    refine fCons.go ?_
    cases t with
    | nil =>
      (try simp only [fAsg, fPar, fPar2, fPar3, fIfS, fRet, fRetN, fDrop, fNil, fBreak, fCont, fAugN, fAugF, fApp, fRaise, mvL, moved, eVar, eVal, eOp2, eOp1, eTup, eLst, eNew, eIf, eAnd2, eOr2, eNot1, eFrz, asD, asB, eFld, eCall, eMake, eMeth, eSl, oNone, oSome, aNil, aCons, lNil, lCons, gNm, gNmS, gFd, gIx, gTp, gsNil, gsCons, tTru, tBool, tAnd2, tOr2, tNot1, tYesD, addM_i, addM_s, addM_t, addM_oo, addM_bo, addM_ob, addM_lo, addM_ol, addM_ll, subM_i, mulM_i, mulM_o, mulT_t, fdivM_i, modM_i, intAddM_i, cmpM_i, min2M_i, max2M_i, negM_i, absM_i, toIntM_i, isnM_any, isN, eqM_i, eqM_b, eqM_s, eqM_t, ixM_t, ixM_o, ixM_l, ixM_k, ixM_r, ixM_b, truM_b, truM_i, truM_n, truM_t, truM_o, lenM, sumM, sumA, tupM, listM, slM, lget, lgetR, lput, iRng1D, iRng2D, iSeq, itOf, eDnew, eDic, eDgt, dgtC, dgM, gDk, keyD, asD, neNilM, List.map_cons, List.map_nil, List.replicate_zero, List.replicate_succ, List.cons_append, List.nil_append, List.append_nil, List.getElem?_cons_succ, List.getElem?_cons_zero, List.set_cons_zero, List.set_cons_succ, List.length_cons, List.length_nil, Nat.reduceAdd, Nat.reduceSub, Nat.reduceLT, Nat.reduceLeDiff, Nat.sub_self, decide_eq_true_eq, sz0, sz1, sz2, sz3, sz4, sz5, sz6, sz7, sz8, ok_int, ok_bl, ok_non, ok_tup, ok_lst, eqb_int, eqb_bl, at0, at1, at2, at3, at4, at5, beq_iff_eq, ite_true, ite_false, Bool.false_eq_true, if_true, if_false, true_and, and_true, false_and, Bool.not_true, Bool.not_false])
      rw [if_pos (by decide)]
      refine hn (bad_no q (by simp)) ?_
      rcases q with q | q
      · exact .inr (by rw [q]; decide)
      · exact .inl (by rw [q]; rfl)
    | cons x t =>
      (try simp only [fAsg, fPar, fPar2, fPar3, fIfS, fRet, fRetN, fDrop, fNil, fBreak, fCont, fAugN, fAugF, fApp, fRaise, mvL, moved, eVar, eVal, eOp2, eOp1, eTup, eLst, eNew, eIf, eAnd2, eOr2, eNot1, eFrz, asD, asB, eFld, eCall, eMake, eMeth, eSl, oNone, oSome, aNil, aCons, lNil, lCons, gNm, gNmS, gFd, gIx, gTp, gsNil, gsCons, tTru, tBool, tAnd2, tOr2, tNot1, tYesD, addM_i, addM_s, addM_t, addM_oo, addM_bo, addM_ob, addM_lo, addM_ol, addM_ll, subM_i, mulM_i, mulM_o, mulT_t, fdivM_i, modM_i, intAddM_i, cmpM_i, min2M_i, max2M_i, negM_i, absM_i, toIntM_i, isnM_any, isN, eqM_i, eqM_b, eqM_s, eqM_t, ixM_t, ixM_o, ixM_l, ixM_k, ixM_r, ixM_b, truM_b, truM_i, truM_n, truM_t, truM_o, lenM, sumM, sumA, tupM, listM, slM, lget, lgetR, lput, iRng1D, iRng2D, iSeq, itOf, eDnew, eDic, eDgt, dgtC, dgM, gDk, keyD, asD, neNilM, List.map_cons, List.map_nil, List.replicate_zero, List.replicate_succ, List.cons_append, List.nil_append, List.append_nil, List.getElem?_cons_succ, List.getElem?_cons_zero, List.set_cons_zero, List.set_cons_succ, List.length_cons, List.length_nil, Nat.reduceAdd, Nat.reduceSub, Nat.reduceLT, Nat.reduceLeDiff, Nat.sub_self, decide_eq_true_eq, sz0, sz1, sz2, sz3, sz4, sz5, sz6, sz7, sz8, ok_int, ok_bl, ok_non, ok_tup, ok_lst, eqb_int, eqb_bl, at0, at1, at2, at3, at4, at5, beq_iff_eq, ite_true, ite_false, Bool.false_eq_true, if_true, if_false, true_and, and_true, false_and, Bool.not_true, Bool.not_false, List.length_map])
      rw [if_neg (by omega)]
      refine fCons.go ?_
      (try simp only [fAsg, fPar, fPar2, fPar3, fIfS, fRet, fRetN, fDrop, fNil, fBreak, fCont, fAugN, fAugF, fApp, fRaise, mvL, moved, eVar, eVal, eOp2, eOp1, eTup, eLst, eNew, eIf, eAnd2, eOr2, eNot1, eFrz, asD, asB, eFld, eCall, eMake, eMeth, eSl, oNone, oSome, aNil, aCons, lNil, lCons, gNm, gNmS, gFd, gIx, gTp, gsNil, gsCons, tTru, tBool, tAnd2, tOr2, tNot1, tYesD, addM_i, addM_s, addM_t, addM_oo, addM_bo, addM_ob, addM_lo, addM_ol, addM_ll, subM_i, mulM_i, mulM_o, mulT_t, fdivM_i, modM_i, intAddM_i, cmpM_i, min2M_i, max2M_i, negM_i, absM_i, toIntM_i, isnM_any, isN, eqM_i, eqM_b, eqM_s, eqM_t, ixM_t, ixM_o, ixM_l, ixM_k, ixM_r, ixM_b, truM_b, truM_i, truM_n, truM_t, truM_o, lenM, sumM, sumA, tupM, listM, slM, lget, lgetR, lput, iRng1D, iRng2D, iSeq, itOf, eDnew, eDic, eDgt, dgtC, dgM, gDk, keyD, asD, neNilM, List.map_cons, List.map_nil, List.replicate_zero, List.replicate_succ, List.cons_append, List.nil_append, List.append_nil, List.getElem?_cons_succ, List.getElem?_cons_zero, List.set_cons_zero, List.set_cons_succ, List.length_cons, List.length_nil, Nat.reduceAdd, Nat.reduceSub, Nat.reduceLT, Nat.reduceLeDiff, Nat.sub_self, decide_eq_true_eq, sz0, sz1, sz2, sz3, sz4, sz5, sz6, sz7, sz8, ok_int, ok_bl, ok_non, ok_tup, ok_lst, eqb_int, eqb_bl, at0, at1, at2, at3, at4, at5, beq_iff_eq, ite_true, ite_false, Bool.false_eq_true, if_true, if_false, true_and, and_true, false_and, Bool.not_true, Bool.not_false])
      by_cases x0 : x = 0
      · rw [if_pos x0]
        unfold fRaiseL
        (try simp only [fAsg, fPar, fPar2, fPar3, fIfS, fRet, fRetN, fDrop, fNil, fBreak, fCont, fAugN, fAugF, fApp, fRaise, mvL, moved, eVar, eVal, eOp2, eOp1, eTup, eLst, eNew, eIf, eAnd2, eOr2, eNot1, eFrz, asD, asB, eFld, eCall, eMake, eMeth, eSl, oNone, oSome, aNil, aCons, lNil, lCons, gNm, gNmS, gFd, gIx, gTp, gsNil, gsCons, tTru, tBool, tAnd2, tOr2, tNot1, tYesD, addM_i, addM_s, addM_t, addM_oo, addM_bo, addM_ob, addM_lo, addM_ol, addM_ll, subM_i, mulM_i, mulM_o, mulT_t, fdivM_i, modM_i, intAddM_i, cmpM_i, min2M_i, max2M_i, negM_i, absM_i, toIntM_i, isnM_any, isN, eqM_i, eqM_b, eqM_s, eqM_t, ixM_t, ixM_o, ixM_l, ixM_k, ixM_r, ixM_b, truM_b, truM_i, truM_n, truM_t, truM_o, lenM, sumM, sumA, tupM, listM, slM, lget, lgetR, lput, iRng1D, iRng2D, iSeq, itOf, eDnew, eDic, eDgt, dgtC, dgM, gDk, keyD, asD, neNilM, List.map_cons, List.map_nil, List.replicate_zero, List.replicate_succ, List.cons_append, List.nil_append, List.append_nil, List.getElem?_cons_succ, List.getElem?_cons_zero, List.set_cons_zero, List.set_cons_succ, List.length_cons, List.length_nil, Nat.reduceAdd, Nat.reduceSub, Nat.reduceLT, Nat.reduceLeDiff, Nat.sub_self, decide_eq_true_eq, sz0, sz1, sz2, sz3, sz4, sz5, sz6, sz7, sz8, ok_int, ok_bl, ok_non, ok_tup, ok_lst, eqb_int, eqb_bl, at0, at1, at2, at3, at4, at5, beq_iff_eq, ite_true, ite_false, Bool.false_eq_true, if_true, if_false, true_and, and_true, false_and, Bool.not_true, Bool.not_false])
        exact hb (.inr ⟨by omega, by rw [x0]; rfl⟩)
      · rw [if_neg x0]
        have nb : ¬ bad h (x :: t) := bad_no q (by simpa using x0)
        have xo := o x List.mem_cons_self
        rcases q with q | q
        · have lg : lng h (x :: t) = 2 := by rw [q]; rfl
          rw [lg] at hi
          subst q
          (try simp only [fAsg, fPar, fPar2, fPar3, fIfS, fRet, fRetN, fDrop, fNil, fBreak, fCont, fAugN, fAugF, fApp, fRaise, mvL, moved, eVar, eVal, eOp2, eOp1, eTup, eLst, eNew, eIf, eAnd2, eOr2, eNot1, eFrz, asD, asB, eFld, eCall, eMake, eMeth, eSl, oNone, oSome, aNil, aCons, lNil, lCons, gNm, gNmS, gFd, gIx, gTp, gsNil, gsCons, tTru, tBool, tAnd2, tOr2, tNot1, tYesD, addM_i, addM_s, addM_t, addM_oo, addM_bo, addM_ob, addM_lo, addM_ol, addM_ll, subM_i, mulM_i, mulM_o, mulT_t, fdivM_i, modM_i, intAddM_i, cmpM_i, min2M_i, max2M_i, negM_i, absM_i, toIntM_i, isnM_any, isN, eqM_i, eqM_b, eqM_s, eqM_t, ixM_t, ixM_o, ixM_l, ixM_k, ixM_r, ixM_b, truM_b, truM_i, truM_n, truM_t, truM_o, lenM, sumM, sumA, tupM, listM, slM, lget, lgetR, lput, iRng1D, iRng2D, iSeq, itOf, eDnew, eDic, eDgt, dgtC, dgM, gDk, keyD, asD, neNilM, List.map_cons, List.map_nil, List.replicate_zero, List.replicate_succ, List.cons_append, List.nil_append, List.append_nil, List.getElem?_cons_succ, List.getElem?_cons_zero, List.set_cons_zero, List.set_cons_succ, List.length_cons, List.length_nil, Nat.reduceAdd, Nat.reduceSub, Nat.reduceLT, Nat.reduceLeDiff, Nat.sub_self, decide_eq_true_eq, sz0, sz1, sz2, sz3, sz4, sz5, sz6, sz7, sz8, ok_int, ok_bl, ok_non, ok_tup, ok_lst, eqb_int, eqb_bl, at0, at1, at2, at3, at4, at5, beq_iff_eq, ite_true, ite_false, Bool.false_eq_true, if_true, if_false, true_and, and_true, false_and, Bool.not_true, Bool.not_false])
          exact hi nb (by decide)
        · have lg : lng h (x :: t) = 2 + x := by rw [q]; rfl
          rw [lg] at hi
          subst q
          (try simp only [fAsg, fPar, fPar2, fPar3, fIfS, fRet, fRetN, fDrop, fNil, fBreak, fCont, fAugN, fAugF, fApp, fRaise, mvL, moved, eVar, eVal, eOp2, eOp1, eTup, eLst, eNew, eIf, eAnd2, eOr2, eNot1, eFrz, asD, asB, eFld, eCall, eMake, eMeth, eSl, oNone, oSome, aNil, aCons, lNil, lCons, gNm, gNmS, gFd, gIx, gTp, gsNil, gsCons, tTru, tBool, tAnd2, tOr2, tNot1, tYesD, addM_i, addM_s, addM_t, addM_oo, addM_bo, addM_ob, addM_lo, addM_ol, addM_ll, subM_i, mulM_i, mulM_o, mulT_t, fdivM_i, modM_i, intAddM_i, cmpM_i, min2M_i, max2M_i, negM_i, absM_i, toIntM_i, isnM_any, isN, eqM_i, eqM_b, eqM_s, eqM_t, ixM_t, ixM_o, ixM_l, ixM_k, ixM_r, ixM_b, truM_b, truM_i, truM_n, truM_t, truM_o, lenM, sumM, sumA, tupM, listM, slM, lget, lgetR, lput, iRng1D, iRng2D, iSeq, itOf, eDnew, eDic, eDgt, dgtC, dgM, gDk, keyD, asD, neNilM, List.map_cons, List.map_nil, List.replicate_zero, List.replicate_succ, List.cons_append, List.nil_append, List.append_nil, List.getElem?_cons_succ, List.getElem?_cons_zero, List.set_cons_zero, List.set_cons_succ, List.length_cons, List.length_nil, Nat.reduceAdd, Nat.reduceSub, Nat.reduceLT, Nat.reduceLeDiff, Nat.sub_self, decide_eq_true_eq, sz0, sz1, sz2, sz3, sz4, sz5, sz6, sz7, sz8, ok_int, ok_bl, ok_non, ok_tup, ok_lst, eqb_int, eqb_bl, at0, at1, at2, at3, at4, at5, beq_iff_eq, ite_true, ite_false, Bool.false_eq_true, if_true, if_false, true_and, and_true, false_and, Bool.not_true, Bool.not_false])
          exact hi nb (by omega)
  · have e : (32 == h || (33 == h || false)) = false := by
      rw [Bool.or_false, Bool.or_eq_false_iff]
      exact ⟨by simpa using fun z => q (.inr z.symm), by simpa using fun z => q (.inl z.symm)⟩
    (try simp only [fAsg, fPar, fPar2, fPar3, fIfS, fRet, fRetN, fDrop, fNil, fBreak, fCont, fAugN, fAugF, fApp, fRaise, mvL, moved, eVar, eVal, eOp2, eOp1, eTup, eLst, eNew, eIf, eAnd2, eOr2, eNot1, eFrz, asD, asB, eFld, eCall, eMake, eMeth, eSl, oNone, oSome, aNil, aCons, lNil, lCons, gNm, gNmS, gFd, gIx, gTp, gsNil, gsCons, tTru, tBool, tAnd2, tOr2, tNot1, tYesD, addM_i, addM_s, addM_t, addM_oo, addM_bo, addM_ob, addM_lo, addM_ol, addM_ll, subM_i, mulM_i, mulM_o, mulT_t, fdivM_i, modM_i, intAddM_i, cmpM_i, min2M_i, max2M_i, negM_i, absM_i, toIntM_i, isnM_any, isN, eqM_i, eqM_b, eqM_s, eqM_t, ixM_t, ixM_o, ixM_l, ixM_k, ixM_r, ixM_b, truM_b, truM_i, truM_n, truM_t, truM_o, lenM, sumM, sumA, tupM, listM, slM, lget, lgetR, lput, iRng1D, iRng2D, iSeq, itOf, eDnew, eDic, eDgt, dgtC, dgM, gDk, keyD, asD, neNilM, List.map_cons, List.map_nil, List.replicate_zero, List.replicate_succ, List.cons_append, List.nil_append, List.append_nil, List.getElem?_cons_succ, List.getElem?_cons_zero, List.set_cons_zero, List.set_cons_succ, List.length_cons, List.length_nil, Nat.reduceAdd, Nat.reduceSub, Nat.reduceLT, Nat.reduceLeDiff, Nat.sub_self, decide_eq_true_eq, sz0, sz1, sz2, sz3, sz4, sz5, sz6, sz7, sz8, ok_int, ok_bl, ok_non, ok_tup, ok_lst, eqb_int, eqb_bl, at0, at1, at2, at3, at4, at5, beq_iff_eq, ite_true, ite_false, Bool.false_eq_true, if_true, if_false, true_and, and_true, false_and, Bool.not_true, Bool.not_false, e])
    refine flen_ hb q (fun b z => hn b (.inl z)) (fun b z => ?_) o hl
    (try simp only [fAsg, fPar, fPar2, fPar3, fIfS, fRet, fRetN, fDrop, fNil, fBreak, fCont, fAugN, fAugF, fApp, fRaise, mvL, moved, eVar, eVal, eOp2, eOp1, eTup, eLst, eNew, eIf, eAnd2, eOr2, eNot1, eFrz, asD, asB, eFld, eCall, eMake, eMeth, eSl, oNone, oSome, aNil, aCons, lNil, lCons, gNm, gNmS, gFd, gIx, gTp, gsNil, gsCons, tTru, tBool, tAnd2, tOr2, tNot1, tYesD, addM_i, addM_s, addM_t, addM_oo, addM_bo, addM_ob, addM_lo, addM_ol, addM_ll, subM_i, mulM_i, mulM_o, mulT_t, fdivM_i, modM_i, intAddM_i, cmpM_i, min2M_i, max2M_i, negM_i, absM_i, toIntM_i, isnM_any, isN, eqM_i, eqM_b, eqM_s, eqM_t, ixM_t, ixM_o, ixM_l, ixM_k, ixM_r, ixM_b, truM_b, truM_i, truM_n, truM_t, truM_o, lenM, sumM, sumA, tupM, listM, slM, lget, lgetR, lput, iRng1D, iRng2D, iSeq, itOf, eDnew, eDic, eDgt, dgtC, dgM, gDk, keyD, asD, neNilM, List.map_cons, List.map_nil, List.replicate_zero, List.replicate_succ, List.cons_append, List.nil_append, List.append_nil, List.getElem?_cons_succ, List.getElem?_cons_zero, List.set_cons_zero, List.set_cons_succ, List.length_cons, List.length_nil, Nat.reduceAdd, Nat.reduceSub, Nat.reduceLT, Nat.reduceLeDiff, Nat.sub_self, decide_eq_true_eq, sz0, sz1, sz2, sz3, sz4, sz5, sz6, sz7, sz8, ok_int, ok_bl, ok_non, ok_tup, ok_lst, eqb_int, eqb_bl, at0, at1, at2, at3, at4, at5, beq_iff_eq, ite_true, ite_false, Bool.false_eq_true, if_true, if_false, true_and, and_true, false_and, Bool.not_true, Bool.not_false])
    exact hi b z
end
end K70

namespace K70
open PySem PySem.Spec PyProof.Rows L2 NT
def resD (f : List (List Int)) (r : List Int) : D := .tup [.tup (f.map tupI), tupI r]
def resO : Option (List (List Int) × List Int) → D
  | none => .non
  | some (f, r) => resD f r
theorem pm_step (n : Nat) (f : List (List Int)) (h : Int) (t : List Int) : pm (n + 1) f (h :: t) = if bad h t then none else if lng h t = 0 ∨ ((t.length : Int) + 1 < lng h t) then some (f, h :: t) else pm n (f ++ [(h :: t).take (lng h t).toNat]) ((h :: t).drop (lng h t).toNat) := rfl
section
variable {K : PySem.W.Frag} {mg : Str → Option Value} {a : Ad} {μ : Mu} {C : P → Mu → Prop} {E : CX}
theorem parted_ (T : Tx K mg a) {c : List Int} (o : Oc c) (hl : c.length ≤ 900) (hb : pm (c.length + 1) [] c = none → E (bf a) μ) (hC : ∀ f r, pm (c.length + 1) [] c = some (f, r) → C (.val (resD f r)) μ) : d_parted_frames K a [tupI c] μ C E := by
  refine ⟨rfl, fCons.go ?_⟩
  unfold tupI
  (try simp only [fAsg, fPar, fPar2, fPar3, fIfS, fRet, fRetN, fDrop, fNil, fBreak, fCont, fAugN, fAugF, fApp, fRaise, mvL, moved, eVar, eVal, eOp2, eOp1, eTup, eLst, eNew, eIf, eAnd2, eOr2, eNot1, eFrz, asD, asB, eFld, eCall, eMake, eMeth, eSl, oNone, oSome, aNil, aCons, lNil, lCons, gNm, gNmS, gFd, gIx, gTp, gsNil, gsCons, tTru, tBool, tAnd2, tOr2, tNot1, tYesD, addM_i, addM_s, addM_t, addM_oo, addM_bo, addM_ob, addM_lo, addM_ol, addM_ll, subM_i, mulM_i, mulM_o, mulT_t, fdivM_i, modM_i, intAddM_i, cmpM_i, min2M_i, max2M_i, negM_i, absM_i, toIntM_i, isnM_any, isN, eqM_i, eqM_b, eqM_s, eqM_t, ixM_t, ixM_o, ixM_l, ixM_k, ixM_r, ixM_b, truM_b, truM_i, truM_n, truM_t, truM_o, lenM, sumM, sumA, tupM, listM, slM, lget, lgetR, lput, iRng1D, iRng2D, iSeq, itOf, eDnew, eDic, eDgt, dgtC, dgM, gDk, keyD, asD, neNilM, List.map_cons, List.map_nil, List.replicate_zero, List.replicate_succ, List.cons_append, List.nil_append, List.append_nil, List.getElem?_cons_succ, List.getElem?_cons_zero, List.set_cons_zero, List.set_cons_succ, List.length_cons, List.length_nil, Nat.reduceAdd, Nat.reduceSub, Nat.reduceLT, Nat.reduceLeDiff, Nat.sub_self, decide_eq_true_eq, sz0, sz1, sz2, sz3, sz4, sz5, sz6, sz7, sz8, ok_int, ok_bl, ok_non, ok_tup, ok_lst, eqb_int, eqb_bl, at0, at1, at2, at3, at4, at5, beq_iff_eq, ite_true, ite_false, Bool.false_eq_true, if_true, if_false, true_and, and_true, false_and, Bool.not_true, Bool.not_false])
  intro adf
  generalize hR : pm (c.length + 1) [] c = R at *
  refine fCons.go ?_
  unfold L_parted_frames_1
  refine loop_while (fun m δ μ' => μ' = μ ∧ ∃ (n : Nat) (f : List (List Int)) (c : List Int) (y2 : Option P), δ = [some (.val (.tup (c.map D.int))), some (.own adf (f.map tupI)), y2] ∧ m = c.length ∧ c.length < n ∧ pm n f c = R ∧ Oc c ∧ f.length + c.length ≤ 900) c.length ⟨rfl, c.length + 1, [], c, none, rfl, rfl, by omega, hR, o, by simpa using hl⟩ ?_
  rintro m δ μ' ⟨rfl, n, f, c, y2, rfl, rfl, hn, hp, o, hfc⟩
  cases c with
  | nil =>
    (try simp only [fAsg, fPar, fPar2, fPar3, fIfS, fRet, fRetN, fDrop, fNil, fBreak, fCont, fAugN, fAugF, fApp, fRaise, mvL, moved, eVar, eVal, eOp2, eOp1, eTup, eLst, eNew, eIf, eAnd2, eOr2, eNot1, eFrz, asD, asB, eFld, eCall, eMake, eMeth, eSl, oNone, oSome, aNil, aCons, lNil, lCons, gNm, gNmS, gFd, gIx, gTp, gsNil, gsCons, tTru, tBool, tAnd2, tOr2, tNot1, tYesD, addM_i, addM_s, addM_t, addM_oo, addM_bo, addM_ob, addM_lo, addM_ol, addM_ll, subM_i, mulM_i, mulM_o, mulT_t, fdivM_i, modM_i, intAddM_i, cmpM_i, min2M_i, max2M_i, negM_i, absM_i, toIntM_i, isnM_any, isN, eqM_i, eqM_b, eqM_s, eqM_t, ixM_t, ixM_o, ixM_l, ixM_k, ixM_r, ixM_b, truM_b, truM_i, truM_n, truM_t, truM_o, lenM, sumM, sumA, tupM, listM, slM, lget, lgetR, lput, iRng1D, iRng2D, iSeq, itOf, eDnew, eDic, eDgt, dgtC, dgM, gDk, keyD, asD, neNilM, List.map_cons, List.map_nil, List.replicate_zero, List.replicate_succ, List.cons_append, List.nil_append, List.append_nil, List.getElem?_cons_succ, List.getElem?_cons_zero, List.set_cons_zero, List.set_cons_succ, List.length_cons, List.length_nil, Nat.reduceAdd, Nat.reduceSub, Nat.reduceLT, Nat.reduceLeDiff, Nat.sub_self, decide_eq_true_eq, sz0, sz1, sz2, sz3, sz4, sz5, sz6, sz7, sz8, ok_int, ok_bl, ok_non, ok_tup, ok_lst, eqb_int, eqb_bl, at0, at1, at2, at3, at4, at5, beq_iff_eq, ite_true, ite_false, Bool.false_eq_true, if_true, if_false, true_and, and_true, false_and, Bool.not_true, Bool.not_false, List.isEmpty_nil])
    refine hC f [] ?_
    rw [← hp]
    cases n with
    | zero => simp at hn
    | succ n => rfl
  | cons h t =>
    cases n with
    | zero => simp at hn
    | succ n =>
    rw [pm_step] at hp
    have ot : Oc t := fun x hx => o x (List.mem_cons_of_mem _ hx)
    simp only [List.length_cons] at hfc hn
    (try simp only [fAsg, fPar, fPar2, fPar3, fIfS, fRet, fRetN, fDrop, fNil, fBreak, fCont, fAugN, fAugF, fApp, fRaise, mvL, moved, eVar, eVal, eOp2, eOp1, eTup, eLst, eNew, eIf, eAnd2, eOr2, eNot1, eFrz, asD, asB, eFld, eCall, eMake, eMeth, eSl, oNone, oSome, aNil, aCons, lNil, lCons, gNm, gNmS, gFd, gIx, gTp, gsNil, gsCons, tTru, tBool, tAnd2, tOr2, tNot1, tYesD, addM_i, addM_s, addM_t, addM_oo, addM_bo, addM_ob, addM_lo, addM_ol, addM_ll, subM_i, mulM_i, mulM_o, mulT_t, fdivM_i, modM_i, intAddM_i, cmpM_i, min2M_i, max2M_i, negM_i, absM_i, toIntM_i, isnM_any, isN, eqM_i, eqM_b, eqM_s, eqM_t, ixM_t, ixM_o, ixM_l, ixM_k, ixM_r, ixM_b, truM_b, truM_i, truM_n, truM_t, truM_o, lenM, sumM, sumA, tupM, listM, slM, lget, lgetR, lput, iRng1D, iRng2D, iSeq, itOf, eDnew, eDic, eDgt, dgtC, dgM, gDk, keyD, asD, neNilM, List.map_cons, List.map_nil, List.replicate_zero, List.replicate_succ, List.cons_append, List.nil_append, List.append_nil, List.getElem?_cons_succ, List.getElem?_cons_zero, List.set_cons_zero, List.set_cons_succ, List.length_cons, List.length_nil, Nat.reduceAdd, Nat.reduceSub, Nat.reduceLT, Nat.reduceLeDiff, Nat.sub_self, decide_eq_true_eq, sz0, sz1, sz2, sz3, sz4, sz5, sz6, sz7, sz8, ok_int, ok_bl, ok_non, ok_tup, ok_lst, eqb_int, eqb_bl, at0, at1, at2, at3, at4, at5, beq_iff_eq, ite_true, ite_false, Bool.false_eq_true, if_true, if_false, true_and, and_true, false_and, Bool.not_true, Bool.not_false, List.isEmpty_cons])
    refine fCons.go ?_
    (try simp only [fAsg, fPar, fPar2, fPar3, fIfS, fRet, fRetN, fDrop, fNil, fBreak, fCont, fAugN, fAugF, fApp, fRaise, mvL, moved, eVar, eVal, eOp2, eOp1, eTup, eLst, eNew, eIf, eAnd2, eOr2, eNot1, eFrz, asD, asB, eFld, eCall, eMake, eMeth, eSl, oNone, oSome, aNil, aCons, lNil, lCons, gNm, gNmS, gFd, gIx, gTp, gsNil, gsCons, tTru, tBool, tAnd2, tOr2, tNot1, tYesD, addM_i, addM_s, addM_t, addM_oo, addM_bo, addM_ob, addM_lo, addM_ol, addM_ll, subM_i, mulM_i, mulM_o, mulT_t, fdivM_i, modM_i, intAddM_i, cmpM_i, min2M_i, max2M_i, negM_i, absM_i, toIntM_i, isnM_any, isN, eqM_i, eqM_b, eqM_s, eqM_t, ixM_t, ixM_o, ixM_l, ixM_k, ixM_r, ixM_b, truM_b, truM_i, truM_n, truM_t, truM_o, lenM, sumM, sumA, tupM, listM, slM, lget, lgetR, lput, iRng1D, iRng2D, iSeq, itOf, eDnew, eDic, eDgt, dgtC, dgM, gDk, keyD, asD, neNilM, List.map_cons, List.map_nil, List.replicate_zero, List.replicate_succ, List.cons_append, List.nil_append, List.append_nil, List.getElem?_cons_succ, List.getElem?_cons_zero, List.set_cons_zero, List.set_cons_succ, List.length_cons, List.length_nil, Nat.reduceAdd, Nat.reduceSub, Nat.reduceLT, Nat.reduceLeDiff, Nat.sub_self, decide_eq_true_eq, sz0, sz1, sz2, sz3, sz4, sz5, sz6, sz7, sz8, ok_int, ok_bl, ok_non, ok_tup, ok_lst, eqb_int, eqb_bl, at0, at1, at2, at3, at4, at5, beq_iff_eq, ite_true, ite_false, Bool.false_eq_true, if_true, if_false, true_and, and_true, false_and, Bool.not_true, Bool.not_false])
    refine wl_ (fun z => ?_) (fun nb w => ?_) (fun nb k1 => ?_) ot (by omega)
    · rw [if_pos z] at hp
      exact hb hp.symm
    · rw [if_neg nb, if_pos w] at hp
      (try simp only [fAsg, fPar, fPar2, fPar3, fIfS, fRet, fRetN, fDrop, fNil, fBreak, fCont, fAugN, fAugF, fApp, fRaise, mvL, moved, eVar, eVal, eOp2, eOp1, eTup, eLst, eNew, eIf, eAnd2, eOr2, eNot1, eFrz, asD, asB, eFld, eCall, eMake, eMeth, eSl, oNone, oSome, aNil, aCons, lNil, lCons, gNm, gNmS, gFd, gIx, gTp, gsNil, gsCons, tTru, tBool, tAnd2, tOr2, tNot1, tYesD, addM_i, addM_s, addM_t, addM_oo, addM_bo, addM_ob, addM_lo, addM_ol, addM_ll, subM_i, mulM_i, mulM_o, mulT_t, fdivM_i, modM_i, intAddM_i, cmpM_i, min2M_i, max2M_i, negM_i, absM_i, toIntM_i, isnM_any, isN, eqM_i, eqM_b, eqM_s, eqM_t, ixM_t, ixM_o, ixM_l, ixM_k, ixM_r, ixM_b, truM_b, truM_i, truM_n, truM_t, truM_o, lenM, sumM, sumA, tupM, listM, slM, lget, lgetR, lput, iRng1D, iRng2D, iSeq, itOf, eDnew, eDic, eDgt, dgtC, dgM, gDk, keyD, asD, neNilM, List.map_cons, List.map_nil, List.replicate_zero, List.replicate_succ, List.cons_append, List.nil_append, List.append_nil, List.getElem?_cons_succ, List.getElem?_cons_zero, List.set_cons_zero, List.set_cons_succ, List.length_cons, List.length_nil, Nat.reduceAdd, Nat.reduceSub, Nat.reduceLT, Nat.reduceLeDiff, Nat.sub_self, decide_eq_true_eq, sz0, sz1, sz2, sz3, sz4, sz5, sz6, sz7, sz8, ok_int, ok_bl, ok_non, ok_tup, ok_lst, eqb_int, eqb_bl, at0, at1, at2, at3, at4, at5, beq_iff_eq, ite_true, ite_false, Bool.false_eq_true, if_true, if_false, true_and, and_true, false_and, Bool.not_true, Bool.not_false])
      refine fCons.go ?_
      (try simp only [fAsg, fPar, fPar2, fPar3, fIfS, fRet, fRetN, fDrop, fNil, fBreak, fCont, fAugN, fAugF, fApp, fRaise, mvL, moved, eVar, eVal, eOp2, eOp1, eTup, eLst, eNew, eIf, eAnd2, eOr2, eNot1, eFrz, asD, asB, eFld, eCall, eMake, eMeth, eSl, oNone, oSome, aNil, aCons, lNil, lCons, gNm, gNmS, gFd, gIx, gTp, gsNil, gsCons, tTru, tBool, tAnd2, tOr2, tNot1, tYesD, addM_i, addM_s, addM_t, addM_oo, addM_bo, addM_ob, addM_lo, addM_ol, addM_ll, subM_i, mulM_i, mulM_o, mulT_t, fdivM_i, modM_i, intAddM_i, cmpM_i, min2M_i, max2M_i, negM_i, absM_i, toIntM_i, isnM_any, isN, eqM_i, eqM_b, eqM_s, eqM_t, ixM_t, ixM_o, ixM_l, ixM_k, ixM_r, ixM_b, truM_b, truM_i, truM_n, truM_t, truM_o, lenM, sumM, sumA, tupM, listM, slM, lget, lgetR, lput, iRng1D, iRng2D, iSeq, itOf, eDnew, eDic, eDgt, dgtC, dgM, gDk, keyD, asD, neNilM, List.map_cons, List.map_nil, List.replicate_zero, List.replicate_succ, List.cons_append, List.nil_append, List.append_nil, List.getElem?_cons_succ, List.getElem?_cons_zero, List.set_cons_zero, List.set_cons_succ, List.length_cons, List.length_nil, Nat.reduceAdd, Nat.reduceSub, Nat.reduceLT, Nat.reduceLeDiff, Nat.sub_self, decide_eq_true_eq, sz0, sz1, sz2, sz3, sz4, sz5, sz6, sz7, sz8, ok_int, ok_bl, ok_non, ok_tup, ok_lst, eqb_int, eqb_bl, at0, at1, at2, at3, at4, at5, beq_iff_eq, ite_true, ite_false, Bool.false_eq_true, if_true, if_false, true_and, and_true, false_and, Bool.not_true, Bool.not_false, List.map_cons])
      exact hC f (h :: t) hp.symm
    · rw [if_neg nb] at hp
      generalize hk : lng h t = k at *
      (try simp only [fAsg, fPar, fPar2, fPar3, fIfS, fRet, fRetN, fDrop, fNil, fBreak, fCont, fAugN, fAugF, fApp, fRaise, mvL, moved, eVar, eVal, eOp2, eOp1, eTup, eLst, eNew, eIf, eAnd2, eOr2, eNot1, eFrz, asD, asB, eFld, eCall, eMake, eMeth, eSl, oNone, oSome, aNil, aCons, lNil, lCons, gNm, gNmS, gFd, gIx, gTp, gsNil, gsCons, tTru, tBool, tAnd2, tOr2, tNot1, tYesD, addM_i, addM_s, addM_t, addM_oo, addM_bo, addM_ob, addM_lo, addM_ol, addM_ll, subM_i, mulM_i, mulM_o, mulT_t, fdivM_i, modM_i, intAddM_i, cmpM_i, min2M_i, max2M_i, negM_i, absM_i, toIntM_i, isnM_any, isN, eqM_i, eqM_b, eqM_s, eqM_t, ixM_t, ixM_o, ixM_l, ixM_k, ixM_r, ixM_b, truM_b, truM_i, truM_n, truM_t, truM_o, lenM, sumM, sumA, tupM, listM, slM, lget, lgetR, lput, iRng1D, iRng2D, iSeq, itOf, eDnew, eDic, eDgt, dgtC, dgM, gDk, keyD, asD, neNilM, List.map_cons, List.map_nil, List.replicate_zero, List.replicate_succ, List.cons_append, List.nil_append, List.append_nil, List.getElem?_cons_succ, List.getElem?_cons_zero, List.set_cons_zero, List.set_cons_succ, List.length_cons, List.length_nil, Nat.reduceAdd, Nat.reduceSub, Nat.reduceLT, Nat.reduceLeDiff, Nat.sub_self, decide_eq_true_eq, sz0, sz1, sz2, sz3, sz4, sz5, sz6, sz7, sz8, ok_int, ok_bl, ok_non, ok_tup, ok_lst, eqb_int, eqb_bl, at0, at1, at2, at3, at4, at5, beq_iff_eq, ite_true, ite_false, Bool.false_eq_true, if_true, if_false, true_and, and_true, false_and, Bool.not_true, Bool.not_false])
      refine fCons.go ?_
      (try simp only [fAsg, fPar, fPar2, fPar3, fIfS, fRet, fRetN, fDrop, fNil, fBreak, fCont, fAugN, fAugF, fApp, fRaise, mvL, moved, eVar, eVal, eOp2, eOp1, eTup, eLst, eNew, eIf, eAnd2, eOr2, eNot1, eFrz, asD, asB, eFld, eCall, eMake, eMeth, eSl, oNone, oSome, aNil, aCons, lNil, lCons, gNm, gNmS, gFd, gIx, gTp, gsNil, gsCons, tTru, tBool, tAnd2, tOr2, tNot1, tYesD, addM_i, addM_s, addM_t, addM_oo, addM_bo, addM_ob, addM_lo, addM_ol, addM_ll, subM_i, mulM_i, mulM_o, mulT_t, fdivM_i, modM_i, intAddM_i, cmpM_i, min2M_i, max2M_i, negM_i, absM_i, toIntM_i, isnM_any, isN, eqM_i, eqM_b, eqM_s, eqM_t, ixM_t, ixM_o, ixM_l, ixM_k, ixM_r, ixM_b, truM_b, truM_i, truM_n, truM_t, truM_o, lenM, sumM, sumA, tupM, listM, slM, lget, lgetR, lput, iRng1D, iRng2D, iSeq, itOf, eDnew, eDic, eDgt, dgtC, dgM, gDk, keyD, asD, neNilM, List.map_cons, List.map_nil, List.replicate_zero, List.replicate_succ, List.cons_append, List.nil_append, List.append_nil, List.getElem?_cons_succ, List.getElem?_cons_zero, List.set_cons_zero, List.set_cons_succ, List.length_cons, List.length_nil, Nat.reduceAdd, Nat.reduceSub, Nat.reduceLT, Nat.reduceLeDiff, Nat.sub_self, decide_eq_true_eq, sz0, sz1, sz2, sz3, sz4, sz5, sz6, sz7, sz8, ok_int, ok_bl, ok_non, ok_tup, ok_lst, eqb_int, eqb_bl, at0, at1, at2, at3, at4, at5, beq_iff_eq, ite_true, ite_false, Bool.false_eq_true, if_true, if_false, true_and, and_true, false_and, Bool.not_true, Bool.not_false, List.length_map])
      by_cases w : (t.length : Int) + 1 < k
      · rw [if_pos (by omega)]
        rw [if_pos (.inr w)] at hp
        exact hC f (h :: t) hp.symm
      · rw [if_neg (by omega)]
        rw [if_neg (by omega)] at hp
        refine fCons.go ?_
        (try simp only [fAsg, fPar, fPar2, fPar3, fIfS, fRet, fRetN, fDrop, fNil, fBreak, fCont, fAugN, fAugF, fApp, fRaise, mvL, moved, eVar, eVal, eOp2, eOp1, eTup, eLst, eNew, eIf, eAnd2, eOr2, eNot1, eFrz, asD, asB, eFld, eCall, eMake, eMeth, eSl, oNone, oSome, aNil, aCons, lNil, lCons, gNm, gNmS, gFd, gIx, gTp, gsNil, gsCons, tTru, tBool, tAnd2, tOr2, tNot1, tYesD, addM_i, addM_s, addM_t, addM_oo, addM_bo, addM_ob, addM_lo, addM_ol, addM_ll, subM_i, mulM_i, mulM_o, mulT_t, fdivM_i, modM_i, intAddM_i, cmpM_i, min2M_i, max2M_i, negM_i, absM_i, toIntM_i, isnM_any, isN, eqM_i, eqM_b, eqM_s, eqM_t, ixM_t, ixM_o, ixM_l, ixM_k, ixM_r, ixM_b, truM_b, truM_i, truM_n, truM_t, truM_o, lenM, sumM, sumA, tupM, listM, slM, lget, lgetR, lput, iRng1D, iRng2D, iSeq, itOf, eDnew, eDic, eDgt, dgtC, dgM, gDk, keyD, asD, neNilM, List.map_cons, List.map_nil, List.replicate_zero, List.replicate_succ, List.cons_append, List.nil_append, List.append_nil, List.getElem?_cons_succ, List.getElem?_cons_zero, List.set_cons_zero, List.set_cons_succ, List.length_cons, List.length_nil, Nat.reduceAdd, Nat.reduceSub, Nat.reduceLT, Nat.reduceLeDiff, Nat.sub_self, decide_eq_true_eq, sz0, sz1, sz2, sz3, sz4, sz5, sz6, sz7, sz8, ok_int, ok_bl, ok_non, ok_tup, ok_lst, eqb_int, eqb_bl, at0, at1, at2, at3, at4, at5, beq_iff_eq, ite_true, ite_false, Bool.false_eq_true, if_true, if_false, true_and, and_true, false_and, Bool.not_true, Bool.not_false, Option.isSome_some, List.length_map])
        refine ⟨Nat.lt_of_lt_of_le (show f.length < 1000 by omega) (by decide), ?_⟩
        have c1 : cutL (D.int h :: t.map D.int) (some k) none = ((h :: t).drop k.toNat).map D.int := by rw [List.map_drop]; exact cut_post (k := k.toNat) (by omega)
        have c2 : cutL (D.int h :: t.map D.int) none (some k) = ((h :: t).take k.toNat).map D.int := by rw [List.map_take]; exact cut_pre (k := k.toNat) (by omega)
        have c3 : f.map tupI ++ [D.tup (((h :: t).take k.toNat).map D.int)] = (f ++ [(h :: t).take k.toNat]).map tupI := by rw [List.map_append]; rfl
        rw [c1, c2, c3]
        have ld : ((h :: t).drop k.toNat).length = t.length + 1 - k.toNat := by rw [List.length_drop, List.length_cons]
        exact ⟨_, by omega, n, f ++ [(h :: t).take k.toNat], (h :: t).drop k.toNat, _, rfl, rfl, by omega, hp, o.drop _, by rw [List.length_append, List.length_singleton]; omega⟩
theorem okI (l : List Int) (n : Nat) : (D.tup (l.map D.int)).ok (n + 1) = true := by
  rw [ok_tup, List.all_map, List.all_eq_true]
  exact fun x _ => ok_int
/-- how the law tells a bad head -/
def tBad : FS := fIfS (tOr2 (tBool (eOp2 (cmpM fun i j => decide (j < i)) (eVar 4) (eVal (.int 33)))) (tAnd2 (tOr2 (tBool (eOp2 (eqM false) (eVar 4) (eVal (.int 33)))) (tOr2 (tBool (eOp2 (eqM false) (eVar 4) (eVal (.int 32)))) (tBool (eOp2 (eqM false) (eOp2 modM (eOp1 toIntM (eVar 4)) (eVal (.int 4))) (eVal (.int 0)))))) (tAnd2 (tBool (eOp2 (eqM true) (eVar 5) (eTup (aNil)))) (tBool (eOp2 (eqM false) (eOp2 ixM (eVar 5) (eVal (.int 0))) (eVal (.int 0))))))) (fRet (eVal .non)) (fNil)
theorem bad_ {D' : FD} {p0 p1 p2 p3 p6 : Option P} {h : Int} {t : List Int} (hb : bad h t → D'.rt (.val .non) μ) (hn : ¬ bad h t → D'.nx [p0, p1, p2, p3, iv h, some (.val (.tup (t.map D.int))), p6] μ) : tBad D' [p0, p1, p2, p3, iv h, some (.val (.tup (t.map D.int))), p6] μ := by
  unfold tBad
  have o0 : ([] : List D).all (D.ok 63) = true := rfl
  cases t with
  | nil =>
    have e0 : (D.tup []).eqb (D.tup []) = true := by simp only [D.eqb, D.eqbs]
    have hbad : bad h [] ↔ 33 < h := by simp [bad]
    rw [hbad] at hb hn
    (try simp only [fAsg, fPar, fPar2, fPar3, fIfS, fRet, fRetN, fDrop, fNil, fBreak, fCont, fAugN, fAugF, fApp, fRaise, mvL, moved, eVar, eVal, eOp2, eOp1, eTup, eLst, eNew, eIf, eAnd2, eOr2, eNot1, eFrz, asD, asB, eFld, eCall, eMake, eMeth, eSl, oNone, oSome, aNil, aCons, lNil, lCons, gNm, gNmS, gFd, gIx, gTp, gsNil, gsCons, tTru, tBool, tAnd2, tOr2, tNot1, tYesD, addM_i, addM_s, addM_t, addM_oo, addM_bo, addM_ob, addM_lo, addM_ol, addM_ll, subM_i, mulM_i, mulM_o, mulT_t, fdivM_i, modM_i, intAddM_i, cmpM_i, min2M_i, max2M_i, negM_i, absM_i, toIntM_i, isnM_any, isN, eqM_i, eqM_b, eqM_s, eqM_t, ixM_t, ixM_o, ixM_l, ixM_k, ixM_r, ixM_b, truM_b, truM_i, truM_n, truM_t, truM_o, lenM, sumM, sumA, tupM, listM, slM, lget, lgetR, lput, iRng1D, iRng2D, iSeq, itOf, eDnew, eDic, eDgt, dgtC, dgM, gDk, keyD, asD, neNilM, List.map_cons, List.map_nil, List.replicate_zero, List.replicate_succ, List.cons_append, List.nil_append, List.append_nil, List.getElem?_cons_succ, List.getElem?_cons_zero, List.set_cons_zero, List.set_cons_succ, List.length_cons, List.length_nil, Nat.reduceAdd, Nat.reduceSub, Nat.reduceLT, Nat.reduceLeDiff, Nat.sub_self, decide_eq_true_eq, sz0, sz1, sz2, sz3, sz4, sz5, sz6, sz7, sz8, ok_int, ok_bl, ok_non, ok_tup, ok_lst, eqb_int, eqb_bl, at0, at1, at2, at3, at4, at5, beq_iff_eq, ite_true, ite_false, Bool.false_eq_true, if_true, if_false, true_and, and_true, false_and, Bool.not_true, Bool.not_false, iv, e0, o0])
    by_cases q : 33 < h
    · rw [if_pos q]; exact hb q
    rw [if_neg q]
    by_cases q1 : h = 33
    · rw [if_pos q1]; exact hn q
    rw [if_neg q1]
    by_cases q2 : h = 32
    · rw [if_pos q2]; exact hn q
    rw [if_neg q2]
    refine ⟨by decide, ?_⟩
    split <;> exact hn q
  | cons x t =>
    have e0 : (D.tup (D.int x :: t.map D.int)).eqb (D.tup []) = false := by simp only [D.eqb, D.eqbs]
    have o1 : (D.int x :: t.map D.int).all (D.ok 63) = true := okI (x :: t) 63
    have hbad : bad h (x :: t) ↔ 33 < h ∨ ((h = 33 ∨ h = 32 ∨ h % 4 = 0) ∧ x = 0) := by simp [bad]
    rw [hbad] at hb hn
    (try simp only [fAsg, fPar, fPar2, fPar3, fIfS, fRet, fRetN, fDrop, fNil, fBreak, fCont, fAugN, fAugF, fApp, fRaise, mvL, moved, eVar, eVal, eOp2, eOp1, eTup, eLst, eNew, eIf, eAnd2, eOr2, eNot1, eFrz, asD, asB, eFld, eCall, eMake, eMeth, eSl, oNone, oSome, aNil, aCons, lNil, lCons, gNm, gNmS, gFd, gIx, gTp, gsNil, gsCons, tTru, tBool, tAnd2, tOr2, tNot1, tYesD, addM_i, addM_s, addM_t, addM_oo, addM_bo, addM_ob, addM_lo, addM_ol, addM_ll, subM_i, mulM_i, mulM_o, mulT_t, fdivM_i, modM_i, intAddM_i, cmpM_i, min2M_i, max2M_i, negM_i, absM_i, toIntM_i, isnM_any, isN, eqM_i, eqM_b, eqM_s, eqM_t, ixM_t, ixM_o, ixM_l, ixM_k, ixM_r, ixM_b, truM_b, truM_i, truM_n, truM_t, truM_o, lenM, sumM, sumA, tupM, listM, slM, lget, lgetR, lput, iRng1D, iRng2D, iSeq, itOf, eDnew, eDic, eDgt, dgtC, dgM, gDk, keyD, asD, neNilM, List.map_cons, List.map_nil, List.replicate_zero, List.replicate_succ, List.cons_append, List.nil_append, List.append_nil, List.getElem?_cons_succ, List.getElem?_cons_zero, List.set_cons_zero, List.set_cons_succ, List.length_cons, List.length_nil, Nat.reduceAdd, Nat.reduceSub, Nat.reduceLT, Nat.reduceLeDiff, Nat.sub_self, decide_eq_true_eq, sz0, sz1, sz2, sz3, sz4, sz5, sz6, sz7, sz8, ok_int, ok_bl, ok_non, ok_tup, ok_lst, eqb_int, eqb_bl, at0, at1, at2, at3, at4, at5, beq_iff_eq, ite_true, ite_false, Bool.false_eq_true, if_true, if_false, true_and, and_true, false_and, Bool.not_true, Bool.not_false, iv, e0, o0, o1])
    by_cases q : 33 < h
    · rw [if_pos q]; exact hb (.inl q)
    rw [if_neg q]
    have fin : (h = 33 ∨ h = 32 ∨ h % 4 = 0) → if x = 0 then D'.rt (.val .non) μ else D'.nx [p0, p1, p2, p3, some (.val (.int h)), some (.val (.tup (D.int x :: t.map D.int))), p6] μ := fun q1 => by
      by_cases x0 : x = 0
      · rw [if_pos x0]; exact hb (.inr ⟨q1, x0⟩)
      · rw [if_neg x0]; exact hn (by omega)
    by_cases q1 : h = 33
    · rw [if_pos q1]; exact fin (.inl q1)
    rw [if_neg q1]
    by_cases q2 : h = 32
    · rw [if_pos q2]; exact fin (.inr (.inl q2))
    rw [if_neg q2]
    refine ⟨by decide, ?_⟩
    by_cases q3 : h % 4 = 0
    · rw [if_pos q3]; exact fin (.inr (.inr q3))
    · rw [if_neg q3]; exact hn (by omega)
def tLng : FS := fAsg (eIf (tBool (eOp2 (eqM false) (eVar 4) (eVal (.int 33)))) (eVal (.int 2)) (eIf (tAnd2 (tBool (eOp2 (cmpM fun i j => decide (i < j)) (eVar 4) (eVal (.int 32)))) (tBool (eOp2 (inM false) (eOp2 modM (eOp1 toIntM (eVar 4)) (eVal (.int 4))) (eTup (aCons (eVal (.int 1)) (aCons (eVal (.int 2)) (aNil))))))) (eVal (.int 1)) (eIf (tAnd2 (tBool (eOp2 (cmpM fun i j => decide (i < j)) (eVar 4) (eVal (.int 32)))) (tBool (eOp2 (eqM false) (eOp2 modM (eOp1 toIntM (eVar 4)) (eVal (.int 4))) (eVal (.int 3))))) (eVal (.int 3)) (eIf (tBool (eOp2 (eqM true) (eVar 5) (eTup (aNil)))) (eOp2 addM (eVal (.int 2)) (eOp2 ixM (eVar 5) (eVal (.int 0)))) (eVal (.int 0)))))) (gNm 6)
theorem lng_ {D' : FD} {p0 p1 p2 p3 p6 : Option P} {h : Int} {t : List Int} (hC : D'.nx [p0, p1, p2, p3, iv h, some (.val (.tup (t.map D.int))), iv (lng h t)] μ) : tLng D' [p0, p1, p2, p3, iv h, some (.val (.tup (t.map D.int))), p6] μ := by
  unfold tLng
  have o0 : ([] : List D).all (D.ok 63) = true := rfl
  by_cases q1 : h = 33
  · subst q1
    (try simp only [fAsg, fPar, fPar2, fPar3, fIfS, fRet, fRetN, fDrop, fNil, fBreak, fCont, fAugN, fAugF, fApp, fRaise, mvL, moved, eVar, eVal, eOp2, eOp1, eTup, eLst, eNew, eIf, eAnd2, eOr2, eNot1, eFrz, asD, asB, eFld, eCall, eMake, eMeth, eSl, oNone, oSome, aNil, aCons, lNil, lCons, gNm, gNmS, gFd, gIx, gTp, gsNil, gsCons, tTru, tBool, tAnd2, tOr2, tNot1, tYesD, addM_i, addM_s, addM_t, addM_oo, addM_bo, addM_ob, addM_lo, addM_ol, addM_ll, subM_i, mulM_i, mulM_o, mulT_t, fdivM_i, modM_i, intAddM_i, cmpM_i, min2M_i, max2M_i, negM_i, absM_i, toIntM_i, isnM_any, isN, eqM_i, eqM_b, eqM_s, eqM_t, ixM_t, ixM_o, ixM_l, ixM_k, ixM_r, ixM_b, truM_b, truM_i, truM_n, truM_t, truM_o, lenM, sumM, sumA, tupM, listM, slM, lget, lgetR, lput, iRng1D, iRng2D, iSeq, itOf, eDnew, eDic, eDgt, dgtC, dgM, gDk, keyD, asD, neNilM, List.map_cons, List.map_nil, List.replicate_zero, List.replicate_succ, List.cons_append, List.nil_append, List.append_nil, List.getElem?_cons_succ, List.getElem?_cons_zero, List.set_cons_zero, List.set_cons_succ, List.length_cons, List.length_nil, Nat.reduceAdd, Nat.reduceSub, Nat.reduceLT, Nat.reduceLeDiff, Nat.sub_self, decide_eq_true_eq, sz0, sz1, sz2, sz3, sz4, sz5, sz6, sz7, sz8, ok_int, ok_bl, ok_non, ok_tup, ok_lst, eqb_int, eqb_bl, at0, at1, at2, at3, at4, at5, beq_iff_eq, ite_true, ite_false, Bool.false_eq_true, if_true, if_false, true_and, and_true, false_and, Bool.not_true, Bool.not_false, iv])
    exact hC
  have f3 : h % 4 = 3 → (1 == h % 4 || (2 == h % 4 || false)) = false := fun e => by rw [e]; decide
  have f0 : h % 4 = 0 → (1 == h % 4 || (2 == h % 4 || false)) = false := fun e => by rw [e]; decide
  have f12 : h % 4 = 1 ∨ h % 4 = 2 → (1 == h % 4 || (2 == h % 4 || false)) = true := fun e => by rcases e with e | e <;> rw [e] <;> decide
  have tl : ∀ l, lng h t = l → D'.nx [p0, p1, p2, p3, some (.val (.int h)), some (.val (.tup (t.map D.int))), some (.val (.int l))] μ := fun l e => by rw [← e]; exact hC
  (try simp only [fAsg, fPar, fPar2, fPar3, fIfS, fRet, fRetN, fDrop, fNil, fBreak, fCont, fAugN, fAugF, fApp, fRaise, mvL, moved, eVar, eVal, eOp2, eOp1, eTup, eLst, eNew, eIf, eAnd2, eOr2, eNot1, eFrz, asD, asB, eFld, eCall, eMake, eMeth, eSl, oNone, oSome, aNil, aCons, lNil, lCons, gNm, gNmS, gFd, gIx, gTp, gsNil, gsCons, tTru, tBool, tAnd2, tOr2, tNot1, tYesD, addM_i, addM_s, addM_t, addM_oo, addM_bo, addM_ob, addM_lo, addM_ol, addM_ll, subM_i, mulM_i, mulM_o, mulT_t, fdivM_i, modM_i, intAddM_i, cmpM_i, min2M_i, max2M_i, negM_i, absM_i, toIntM_i, isnM_any, isN, eqM_i, eqM_b, eqM_s, eqM_t, ixM_t, ixM_o, ixM_l, ixM_k, ixM_r, ixM_b, truM_b, truM_i, truM_n, truM_t, truM_o, lenM, sumM, sumA, tupM, listM, slM, lget, lgetR, lput, iRng1D, iRng2D, iSeq, itOf, eDnew, eDic, eDgt, dgtC, dgM, gDk, keyD, asD, neNilM, List.map_cons, List.map_nil, List.replicate_zero, List.replicate_succ, List.cons_append, List.nil_append, List.append_nil, List.getElem?_cons_succ, List.getElem?_cons_zero, List.set_cons_zero, List.set_cons_succ, List.length_cons, List.length_nil, Nat.reduceAdd, Nat.reduceSub, Nat.reduceLT, Nat.reduceLeDiff, Nat.sub_self, decide_eq_true_eq, sz0, sz1, sz2, sz3, sz4, sz5, sz6, sz7, sz8, ok_int, ok_bl, ok_non, ok_tup, ok_lst, eqb_int, eqb_bl, at0, at1, at2, at3, at4, at5, beq_iff_eq, ite_true, ite_false, Bool.false_eq_true, if_true, if_false, true_and, and_true, false_and, Bool.not_true, Bool.not_false, iv, q1, inM, anyD, List.any_cons, List.any_nil, D.flat, List.all_cons, List.all_nil, Bool.and_self])
  by_cases q2 : h < 32
  · rw [if_pos q2]
    refine ⟨by decide, ?_⟩
    rcases kinds (h := h) with e | e | e | e
    · rw [if_neg (by rw [f0 e]; decide), if_pos q2]
      refine ⟨by decide, ?_⟩
      rw [if_neg (by omega)]
      have l0 : ∀ t, lng h t = match t with | [] => 0 | x :: _ => 2 + x := fun t => by
        unfold lng
        rw [if_neg q1, if_neg (by omega), if_neg (by omega)]
        all_goals (cases t <;> rfl)
      cases t with
      | nil =>
        have e0 : (D.tup []).eqb (D.tup []) = true := by simp only [D.eqb, D.eqbs]
        (try simp only [fAsg, fPar, fPar2, fPar3, fIfS, fRet, fRetN, fDrop, fNil, fBreak, fCont, fAugN, fAugF, fApp, fRaise, mvL, moved, eVar, eVal, eOp2, eOp1, eTup, eLst, eNew, eIf, eAnd2, eOr2, eNot1, eFrz, asD, asB, eFld, eCall, eMake, eMeth, eSl, oNone, oSome, aNil, aCons, lNil, lCons, gNm, gNmS, gFd, gIx, gTp, gsNil, gsCons, tTru, tBool, tAnd2, tOr2, tNot1, tYesD, addM_i, addM_s, addM_t, addM_oo, addM_bo, addM_ob, addM_lo, addM_ol, addM_ll, subM_i, mulM_i, mulM_o, mulT_t, fdivM_i, modM_i, intAddM_i, cmpM_i, min2M_i, max2M_i, negM_i, absM_i, toIntM_i, isnM_any, isN, eqM_i, eqM_b, eqM_s, eqM_t, ixM_t, ixM_o, ixM_l, ixM_k, ixM_r, ixM_b, truM_b, truM_i, truM_n, truM_t, truM_o, lenM, sumM, sumA, tupM, listM, slM, lget, lgetR, lput, iRng1D, iRng2D, iSeq, itOf, eDnew, eDic, eDgt, dgtC, dgM, gDk, keyD, asD, neNilM, List.map_cons, List.map_nil, List.replicate_zero, List.replicate_succ, List.cons_append, List.nil_append, List.append_nil, List.getElem?_cons_succ, List.getElem?_cons_zero, List.set_cons_zero, List.set_cons_succ, List.length_cons, List.length_nil, Nat.reduceAdd, Nat.reduceSub, Nat.reduceLT, Nat.reduceLeDiff, Nat.sub_self, decide_eq_true_eq, sz0, sz1, sz2, sz3, sz4, sz5, sz6, sz7, sz8, ok_int, ok_bl, ok_non, ok_tup, ok_lst, eqb_int, eqb_bl, at0, at1, at2, at3, at4, at5, beq_iff_eq, ite_true, ite_false, Bool.false_eq_true, if_true, if_false, true_and, and_true, false_and, Bool.not_true, Bool.not_false, e0, o0])
        exact tl 0 (l0 [])
      | cons x t =>
        have e0 : (D.tup (D.int x :: t.map D.int)).eqb (D.tup []) = false := by simp only [D.eqb, D.eqbs]
        have o1 : (D.int x :: t.map D.int).all (D.ok 63) = true := okI (x :: t) 63
        (try simp only [fAsg, fPar, fPar2, fPar3, fIfS, fRet, fRetN, fDrop, fNil, fBreak, fCont, fAugN, fAugF, fApp, fRaise, mvL, moved, eVar, eVal, eOp2, eOp1, eTup, eLst, eNew, eIf, eAnd2, eOr2, eNot1, eFrz, asD, asB, eFld, eCall, eMake, eMeth, eSl, oNone, oSome, aNil, aCons, lNil, lCons, gNm, gNmS, gFd, gIx, gTp, gsNil, gsCons, tTru, tBool, tAnd2, tOr2, tNot1, tYesD, addM_i, addM_s, addM_t, addM_oo, addM_bo, addM_ob, addM_lo, addM_ol, addM_ll, subM_i, mulM_i, mulM_o, mulT_t, fdivM_i, modM_i, intAddM_i, cmpM_i, min2M_i, max2M_i, negM_i, absM_i, toIntM_i, isnM_any, isN, eqM_i, eqM_b, eqM_s, eqM_t, ixM_t, ixM_o, ixM_l, ixM_k, ixM_r, ixM_b, truM_b, truM_i, truM_n, truM_t, truM_o, lenM, sumM, sumA, tupM, listM, slM, lget, lgetR, lput, iRng1D, iRng2D, iSeq, itOf, eDnew, eDic, eDgt, dgtC, dgM, gDk, keyD, asD, neNilM, List.map_cons, List.map_nil, List.replicate_zero, List.replicate_succ, List.cons_append, List.nil_append, List.append_nil, List.getElem?_cons_succ, List.getElem?_cons_zero, List.set_cons_zero, List.set_cons_succ, List.length_cons, List.length_nil, Nat.reduceAdd, Nat.reduceSub, Nat.reduceLT, Nat.reduceLeDiff, Nat.sub_self, decide_eq_true_eq, sz0, sz1, sz2, sz3, sz4, sz5, sz6, sz7, sz8, ok_int, ok_bl, ok_non, ok_tup, ok_lst, eqb_int, eqb_bl, at0, at1, at2, at3, at4, at5, beq_iff_eq, ite_true, ite_false, Bool.false_eq_true, if_true, if_false, true_and, and_true, false_and, Bool.not_true, Bool.not_false, e0, o0, o1])
        exact tl (2 + x) (l0 (x :: t))
    · rw [if_pos (f12 (.inl e))]
      exact tl 1 (by unfold lng; rw [if_neg q1, if_pos ⟨q2, .inl e⟩])
    · rw [if_pos (f12 (.inr e))]
      exact tl 1 (by unfold lng; rw [if_neg q1, if_pos ⟨q2, .inr e⟩])
    · rw [if_neg (by rw [f3 e]; decide), if_pos q2]
      refine ⟨by decide, ?_⟩
      rw [if_pos e]
      exact tl 3 (by unfold lng; rw [if_neg q1, if_neg (by omega), if_pos ⟨q2, e⟩])
  · rw [if_neg q2, if_neg q2]
    have l0 : ∀ t, lng h t = match t with | [] => 0 | x :: _ => 2 + x := fun t => by
      unfold lng
      rw [if_neg q1, if_neg (by omega), if_neg (by omega)]
      all_goals (cases t <;> rfl)
    cases t with
    | nil =>
      have e0 : (D.tup []).eqb (D.tup []) = true := by simp only [D.eqb, D.eqbs]
      (try simp only [fAsg, fPar, fPar2, fPar3, fIfS, fRet, fRetN, fDrop, fNil, fBreak, fCont, fAugN, fAugF, fApp, fRaise, mvL, moved, eVar, eVal, eOp2, eOp1, eTup, eLst, eNew, eIf, eAnd2, eOr2, eNot1, eFrz, asD, asB, eFld, eCall, eMake, eMeth, eSl, oNone, oSome, aNil, aCons, lNil, lCons, gNm, gNmS, gFd, gIx, gTp, gsNil, gsCons, tTru, tBool, tAnd2, tOr2, tNot1, tYesD, addM_i, addM_s, addM_t, addM_oo, addM_bo, addM_ob, addM_lo, addM_ol, addM_ll, subM_i, mulM_i, mulM_o, mulT_t, fdivM_i, modM_i, intAddM_i, cmpM_i, min2M_i, max2M_i, negM_i, absM_i, toIntM_i, isnM_any, isN, eqM_i, eqM_b, eqM_s, eqM_t, ixM_t, ixM_o, ixM_l, ixM_k, ixM_r, ixM_b, truM_b, truM_i, truM_n, truM_t, truM_o, lenM, sumM, sumA, tupM, listM, slM, lget, lgetR, lput, iRng1D, iRng2D, iSeq, itOf, eDnew, eDic, eDgt, dgtC, dgM, gDk, keyD, asD, neNilM, List.map_cons, List.map_nil, List.replicate_zero, List.replicate_succ, List.cons_append, List.nil_append, List.append_nil, List.getElem?_cons_succ, List.getElem?_cons_zero, List.set_cons_zero, List.set_cons_succ, List.length_cons, List.length_nil, Nat.reduceAdd, Nat.reduceSub, Nat.reduceLT, Nat.reduceLeDiff, Nat.sub_self, decide_eq_true_eq, sz0, sz1, sz2, sz3, sz4, sz5, sz6, sz7, sz8, ok_int, ok_bl, ok_non, ok_tup, ok_lst, eqb_int, eqb_bl, at0, at1, at2, at3, at4, at5, beq_iff_eq, ite_true, ite_false, Bool.false_eq_true, if_true, if_false, true_and, and_true, false_and, Bool.not_true, Bool.not_false, e0, o0])
      exact tl 0 (l0 [])
    | cons x t =>
      have e0 : (D.tup (D.int x :: t.map D.int)).eqb (D.tup []) = false := by simp only [D.eqb, D.eqbs]
      have o1 : (D.int x :: t.map D.int).all (D.ok 63) = true := okI (x :: t) 63
      (try simp only [fAsg, fPar, fPar2, fPar3, fIfS, fRet, fRetN, fDrop, fNil, fBreak, fCont, fAugN, fAugF, fApp, fRaise, mvL, moved, eVar, eVal, eOp2, eOp1, eTup, eLst, eNew, eIf, eAnd2, eOr2, eNot1, eFrz, asD, asB, eFld, eCall, eMake, eMeth, eSl, oNone, oSome, aNil, aCons, lNil, lCons, gNm, gNmS, gFd, gIx, gTp, gsNil, gsCons, tTru, tBool, tAnd2, tOr2, tNot1, tYesD, addM_i, addM_s, addM_t, addM_oo, addM_bo, addM_ob, addM_lo, addM_ol, addM_ll, subM_i, mulM_i, mulM_o, mulT_t, fdivM_i, modM_i, intAddM_i, cmpM_i, min2M_i, max2M_i, negM_i, absM_i, toIntM_i, isnM_any, isN, eqM_i, eqM_b, eqM_s, eqM_t, ixM_t, ixM_o, ixM_l, ixM_k, ixM_r, ixM_b, truM_b, truM_i, truM_n, truM_t, truM_o, lenM, sumM, sumA, tupM, listM, slM, lget, lgetR, lput, iRng1D, iRng2D, iSeq, itOf, eDnew, eDic, eDgt, dgtC, dgM, gDk, keyD, asD, neNilM, List.map_cons, List.map_nil, List.replicate_zero, List.replicate_succ, List.cons_append, List.nil_append, List.append_nil, List.getElem?_cons_succ, List.getElem?_cons_zero, List.set_cons_zero, List.set_cons_succ, List.length_cons, List.length_nil, Nat.reduceAdd, Nat.reduceSub, Nat.reduceLT, Nat.reduceLeDiff, Nat.sub_self, decide_eq_true_eq, sz0, sz1, sz2, sz3, sz4, sz5, sz6, sz7, sz8, ok_int, ok_bl, ok_non, ok_tup, ok_lst, eqb_int, eqb_bl, at0, at1, at2, at3, at4, at5, beq_iff_eq, ite_true, ite_false, Bool.false_eq_true, if_true, if_false, true_and, and_true, false_and, Bool.not_true, Bool.not_false, e0, o0, o1])
      exact tl (2 + x) (l0 (x :: t))
theorem lparted_ {c : List Int} (o : Oc c) (hl : c.length ≤ 900) (hC : C (.val (resO (pm (c.length + 1) [] c))) μ) : d_law_parted K a [tupI c] μ C E := by
  refine ⟨rfl, fCons.go ?_⟩
  unfold tupI
  (try simp only [fAsg, fPar, fPar2, fPar3, fIfS, fRet, fRetN, fDrop, fNil, fBreak, fCont, fAugN, fAugF, fApp, fRaise, mvL, moved, eVar, eVal, eOp2, eOp1, eTup, eLst, eNew, eIf, eAnd2, eOr2, eNot1, eFrz, asD, asB, eFld, eCall, eMake, eMeth, eSl, oNone, oSome, aNil, aCons, lNil, lCons, gNm, gNmS, gFd, gIx, gTp, gsNil, gsCons, tTru, tBool, tAnd2, tOr2, tNot1, tYesD, addM_i, addM_s, addM_t, addM_oo, addM_bo, addM_ob, addM_lo, addM_ol, addM_ll, subM_i, mulM_i, mulM_o, mulT_t, fdivM_i, modM_i, intAddM_i, cmpM_i, min2M_i, max2M_i, negM_i, absM_i, toIntM_i, isnM_any, isN, eqM_i, eqM_b, eqM_s, eqM_t, ixM_t, ixM_o, ixM_l, ixM_k, ixM_r, ixM_b, truM_b, truM_i, truM_n, truM_t, truM_o, lenM, sumM, sumA, tupM, listM, slM, lget, lgetR, lput, iRng1D, iRng2D, iSeq, itOf, eDnew, eDic, eDgt, dgtC, dgM, gDk, keyD, asD, neNilM, List.map_cons, List.map_nil, List.replicate_zero, List.replicate_succ, List.cons_append, List.nil_append, List.append_nil, List.getElem?_cons_succ, List.getElem?_cons_zero, List.set_cons_zero, List.set_cons_succ, List.length_cons, List.length_nil, Nat.reduceAdd, Nat.reduceSub, Nat.reduceLT, Nat.reduceLeDiff, Nat.sub_self, decide_eq_true_eq, sz0, sz1, sz2, sz3, sz4, sz5, sz6, sz7, sz8, ok_int, ok_bl, ok_non, ok_tup, ok_lst, eqb_int, eqb_bl, at0, at1, at2, at3, at4, at5, beq_iff_eq, ite_true, ite_false, Bool.false_eq_true, if_true, if_false, true_and, and_true, false_and, Bool.not_true, Bool.not_false, gsCons])
  generalize hR : pm (c.length + 1) [] c = R at *
  refine fCons.go ?_
  unfold L_law_parted_1
  rw [fFor_eq]
  (try simp only [fAsg, fPar, fPar2, fPar3, fIfS, fRet, fRetN, fDrop, fNil, fBreak, fCont, fAugN, fAugF, fApp, fRaise, mvL, moved, eVar, eVal, eOp2, eOp1, eTup, eLst, eNew, eIf, eAnd2, eOr2, eNot1, eFrz, asD, asB, eFld, eCall, eMake, eMeth, eSl, oNone, oSome, aNil, aCons, lNil, lCons, gNm, gNmS, gFd, gIx, gTp, gsNil, gsCons, tTru, tBool, tAnd2, tOr2, tNot1, tYesD, addM_i, addM_s, addM_t, addM_oo, addM_bo, addM_ob, addM_lo, addM_ol, addM_ll, subM_i, mulM_i, mulM_o, mulT_t, fdivM_i, modM_i, intAddM_i, cmpM_i, min2M_i, max2M_i, negM_i, absM_i, toIntM_i, isnM_any, isN, eqM_i, eqM_b, eqM_s, eqM_t, ixM_t, ixM_o, ixM_l, ixM_k, ixM_r, ixM_b, truM_b, truM_i, truM_n, truM_t, truM_o, lenM, sumM, sumA, tupM, listM, slM, lget, lgetR, lput, iRng1D, iRng2D, iSeq, itOf, eDnew, eDic, eDgt, dgtC, dgM, gDk, keyD, asD, neNilM, List.map_cons, List.map_nil, List.replicate_zero, List.replicate_succ, List.cons_append, List.nil_append, List.append_nil, List.getElem?_cons_succ, List.getElem?_cons_zero, List.set_cons_zero, List.set_cons_succ, List.length_cons, List.length_nil, Nat.reduceAdd, Nat.reduceSub, Nat.reduceLT, Nat.reduceLeDiff, Nat.sub_self, decide_eq_true_eq, sz0, sz1, sz2, sz3, sz4, sz5, sz6, sz7, sz8, ok_int, ok_bl, ok_non, ok_tup, ok_lst, eqb_int, eqb_bl, at0, at1, at2, at3, at4, at5, beq_iff_eq, ite_true, ite_false, Bool.false_eq_true, if_true, if_false, true_and, and_true, false_and, Bool.not_true, Bool.not_false, List.length_map])
  refine ⟨⟨by omega, by omega⟩, ?_⟩
  rw [show ((c.length : Int) + 1).toNat = c.length + 1 by omega]
  refine loop_rng (fun i δ μ' => μ' = μ ∧ ∃ (f : List (List Int)) (at_ : Nat) (y3 y4 y5 y6 : Option P), δ = [some (.val (.tup (c.map D.int))), some (.val (.tup (f.map tupI))), iv at_, y3, y4, y5, y6] ∧ i ≤ at_ ∧ at_ ≤ c.length ∧ f.length ≤ at_ ∧ ∃ n, c.length - at_ < n ∧ pm n f (c.drop at_) = R) ⟨rfl, [], 0, _, _, _, _, rfl, by omega, by omega, by simp, _, Nat.lt_succ_self _, hR⟩ ?_ ?_
  · rintro i δ μ' hi ⟨rfl, f, at_, y3, y4, y5, y6, rfl, h1, h2, h3, n, hn, hp⟩
    cases n with
    | zero => omega
    | succ n =>
    (try simp only [fAsg, fPar, fPar2, fPar3, fIfS, fRet, fRetN, fDrop, fNil, fBreak, fCont, fAugN, fAugF, fApp, fRaise, mvL, moved, eVar, eVal, eOp2, eOp1, eTup, eLst, eNew, eIf, eAnd2, eOr2, eNot1, eFrz, asD, asB, eFld, eCall, eMake, eMeth, eSl, oNone, oSome, aNil, aCons, lNil, lCons, gNm, gNmS, gFd, gIx, gTp, gsNil, gsCons, tTru, tBool, tAnd2, tOr2, tNot1, tYesD, addM_i, addM_s, addM_t, addM_oo, addM_bo, addM_ob, addM_lo, addM_ol, addM_ll, subM_i, mulM_i, mulM_o, mulT_t, fdivM_i, modM_i, intAddM_i, cmpM_i, min2M_i, max2M_i, negM_i, absM_i, toIntM_i, isnM_any, isN, eqM_i, eqM_b, eqM_s, eqM_t, ixM_t, ixM_o, ixM_l, ixM_k, ixM_r, ixM_b, truM_b, truM_i, truM_n, truM_t, truM_o, lenM, sumM, sumA, tupM, listM, slM, lget, lgetR, lput, iRng1D, iRng2D, iSeq, itOf, eDnew, eDic, eDgt, dgtC, dgM, gDk, keyD, asD, neNilM, List.map_cons, List.map_nil, List.replicate_zero, List.replicate_succ, List.cons_append, List.nil_append, List.append_nil, List.getElem?_cons_succ, List.getElem?_cons_zero, List.set_cons_zero, List.set_cons_succ, List.length_cons, List.length_nil, Nat.reduceAdd, Nat.reduceSub, Nat.reduceLT, Nat.reduceLeDiff, Nat.sub_self, decide_eq_true_eq, sz0, sz1, sz2, sz3, sz4, sz5, sz6, sz7, sz8, ok_int, ok_bl, ok_non, ok_tup, ok_lst, eqb_int, eqb_bl, at0, at1, at2, at3, at4, at5, beq_iff_eq, ite_true, ite_false, Bool.false_eq_true, if_true, if_false, true_and, and_true, false_and, Bool.not_true, Bool.not_false, iv])
    refine fCons.go ?_
    (try simp only [fAsg, fPar, fPar2, fPar3, fIfS, fRet, fRetN, fDrop, fNil, fBreak, fCont, fAugN, fAugF, fApp, fRaise, mvL, moved, eVar, eVal, eOp2, eOp1, eTup, eLst, eNew, eIf, eAnd2, eOr2, eNot1, eFrz, asD, asB, eFld, eCall, eMake, eMeth, eSl, oNone, oSome, aNil, aCons, lNil, lCons, gNm, gNmS, gFd, gIx, gTp, gsNil, gsCons, tTru, tBool, tAnd2, tOr2, tNot1, tYesD, addM_i, addM_s, addM_t, addM_oo, addM_bo, addM_ob, addM_lo, addM_ol, addM_ll, subM_i, mulM_i, mulM_o, mulT_t, fdivM_i, modM_i, intAddM_i, cmpM_i, min2M_i, max2M_i, negM_i, absM_i, toIntM_i, isnM_any, isN, eqM_i, eqM_b, eqM_s, eqM_t, ixM_t, ixM_o, ixM_l, ixM_k, ixM_r, ixM_b, truM_b, truM_i, truM_n, truM_t, truM_o, lenM, sumM, sumA, tupM, listM, slM, lget, lgetR, lput, iRng1D, iRng2D, iSeq, itOf, eDnew, eDic, eDgt, dgtC, dgM, gDk, keyD, asD, neNilM, List.map_cons, List.map_nil, List.replicate_zero, List.replicate_succ, List.cons_append, List.nil_append, List.append_nil, List.getElem?_cons_succ, List.getElem?_cons_zero, List.set_cons_zero, List.set_cons_succ, List.length_cons, List.length_nil, Nat.reduceAdd, Nat.reduceSub, Nat.reduceLT, Nat.reduceLeDiff, Nat.sub_self, decide_eq_true_eq, sz0, sz1, sz2, sz3, sz4, sz5, sz6, sz7, sz8, ok_int, ok_bl, ok_non, ok_tup, ok_lst, eqb_int, eqb_bl, at0, at1, at2, at3, at4, at5, beq_iff_eq, ite_true, ite_false, Bool.false_eq_true, if_true, if_false, true_and, and_true, false_and, Bool.not_true, Bool.not_false, List.length_map])
    by_cases q : at_ = c.length
    · rw [if_pos (by omega)]
      rw [q, List.drop_length] at hp
      have hp' : some (f, []) = R := hp
      rw [← hp'] at hC
      exact hC
    · rw [if_neg (by omega)]
      obtain ⟨h, t, dr⟩ : ∃ h t, c.drop at_ = h :: t := by
        cases e : c.drop at_ with
        | nil => rw [List.drop_eq_nil_iff] at e; omega
        | cons h t => exact ⟨h, t, rfl⟩
      have dl : (c.drop at_).length = t.length + 1 := by rw [dr, List.length_cons]
      rw [List.length_drop] at dl
      have e1 : atI (c.map D.int) (at_ : Int) = some (.int h) := by
        refine atI_nat ?_
        rw [List.getElem?_map]
        have := congrArg (fun l => l[0]?) dr
        simp only [List.getElem?_drop, Nat.add_zero, List.getElem?_cons_zero] at this
        rw [this]
        rfl
      have e2 : cutL (c.map D.int) (some ((at_ : Int) + 1)) none = t.map D.int := by
        rw [show cutL (c.map D.int) (some ((at_ : Int) + 1)) none = (c.map D.int).drop (at_ + 1) from cut_post (k := at_ + 1) (by omega), ← List.map_drop, ← List.drop_drop, dr]
        rfl
      have ot : Oc t := fun x hx => o x (List.mem_of_mem_drop (by rw [dr]; exact List.mem_cons_of_mem _ hx))
      rw [dr, pm_step] at hp
      refine fCons.go ?_
      (try simp only [fAsg, fPar, fPar2, fPar3, fIfS, fRet, fRetN, fDrop, fNil, fBreak, fCont, fAugN, fAugF, fApp, fRaise, mvL, moved, eVar, eVal, eOp2, eOp1, eTup, eLst, eNew, eIf, eAnd2, eOr2, eNot1, eFrz, asD, asB, eFld, eCall, eMake, eMeth, eSl, oNone, oSome, aNil, aCons, lNil, lCons, gNm, gNmS, gFd, gIx, gTp, gsNil, gsCons, tTru, tBool, tAnd2, tOr2, tNot1, tYesD, addM_i, addM_s, addM_t, addM_oo, addM_bo, addM_ob, addM_lo, addM_ol, addM_ll, subM_i, mulM_i, mulM_o, mulT_t, fdivM_i, modM_i, intAddM_i, cmpM_i, min2M_i, max2M_i, negM_i, absM_i, toIntM_i, isnM_any, isN, eqM_i, eqM_b, eqM_s, eqM_t, ixM_t, ixM_o, ixM_l, ixM_k, ixM_r, ixM_b, truM_b, truM_i, truM_n, truM_t, truM_o, lenM, sumM, sumA, tupM, listM, slM, lget, lgetR, lput, iRng1D, iRng2D, iSeq, itOf, eDnew, eDic, eDgt, dgtC, dgM, gDk, keyD, asD, neNilM, List.map_cons, List.map_nil, List.replicate_zero, List.replicate_succ, List.cons_append, List.nil_append, List.append_nil, List.getElem?_cons_succ, List.getElem?_cons_zero, List.set_cons_zero, List.set_cons_succ, List.length_cons, List.length_nil, Nat.reduceAdd, Nat.reduceSub, Nat.reduceLT, Nat.reduceLeDiff, Nat.sub_self, decide_eq_true_eq, sz0, sz1, sz2, sz3, sz4, sz5, sz6, sz7, sz8, ok_int, ok_bl, ok_non, ok_tup, ok_lst, eqb_int, eqb_bl, at0, at1, at2, at3, at4, at5, beq_iff_eq, ite_true, ite_false, Bool.false_eq_true, if_true, if_false, true_and, and_true, false_and, Bool.not_true, Bool.not_false, e1, e2])
      have hRn : bad h t → R = none := fun z => by rw [if_pos z] at hp; exact hp.symm
      refine ⟨fun δ2 μ2 => μ2 = μ' ∧ ¬ bad h t ∧ δ2 = [some (.val (.tup (c.map D.int))), some (.val (.tup (f.map tupI))), iv at_, iv (0 + (i : Int)), iv h, some (.val (.tup (t.map D.int))), y6], ?_, ?_⟩
      · refine bad_ (fun z => ?_) fun nb => ⟨rfl, nb, rfl⟩
        rw [hRn z] at hC
        exact hC
      · rintro δ2 μ2 ⟨rfl, nb, rfl⟩
        rw [if_neg nb] at hp
        refine fCons.go (lng_ ?_)
        have nn := lng_nn (h := h) ot
        generalize hk : lng h t = k at *
        refine fCons.go ?_
        have c0 : cutL (c.map D.int) (some (at_ : Int)) none = (D.int h :: t.map D.int) := by
          rw [show cutL (c.map D.int) (some (at_ : Int)) none = (c.map D.int).drop at_ from cut_post (k := at_) rfl, ← List.map_drop, dr]
          rfl
        (try simp only [fAsg, fPar, fPar2, fPar3, fIfS, fRet, fRetN, fDrop, fNil, fBreak, fCont, fAugN, fAugF, fApp, fRaise, mvL, moved, eVar, eVal, eOp2, eOp1, eTup, eLst, eNew, eIf, eAnd2, eOr2, eNot1, eFrz, asD, asB, eFld, eCall, eMake, eMeth, eSl, oNone, oSome, aNil, aCons, lNil, lCons, gNm, gNmS, gFd, gIx, gTp, gsNil, gsCons, tTru, tBool, tAnd2, tOr2, tNot1, tYesD, addM_i, addM_s, addM_t, addM_oo, addM_bo, addM_ob, addM_lo, addM_ol, addM_ll, subM_i, mulM_i, mulM_o, mulT_t, fdivM_i, modM_i, intAddM_i, cmpM_i, min2M_i, max2M_i, negM_i, absM_i, toIntM_i, isnM_any, isN, eqM_i, eqM_b, eqM_s, eqM_t, ixM_t, ixM_o, ixM_l, ixM_k, ixM_r, ixM_b, truM_b, truM_i, truM_n, truM_t, truM_o, lenM, sumM, sumA, tupM, listM, slM, lget, lgetR, lput, iRng1D, iRng2D, iSeq, itOf, eDnew, eDic, eDgt, dgtC, dgM, gDk, keyD, asD, neNilM, List.map_cons, List.map_nil, List.replicate_zero, List.replicate_succ, List.cons_append, List.nil_append, List.append_nil, List.getElem?_cons_succ, List.getElem?_cons_zero, List.set_cons_zero, List.set_cons_succ, List.length_cons, List.length_nil, Nat.reduceAdd, Nat.reduceSub, Nat.reduceLT, Nat.reduceLeDiff, Nat.sub_self, decide_eq_true_eq, sz0, sz1, sz2, sz3, sz4, sz5, sz6, sz7, sz8, ok_int, ok_bl, ok_non, ok_tup, ok_lst, eqb_int, eqb_bl, at0, at1, at2, at3, at4, at5, beq_iff_eq, ite_true, ite_false, Bool.false_eq_true, if_true, if_false, true_and, and_true, false_and, Bool.not_true, Bool.not_false, iv, List.length_map, c0])
        have endC : (k = 0 ∨ (t.length : Int) + 1 < k) → C (.val (.tup [.tup (f.map tupI), .tup (D.int h :: t.map D.int)])) μ2 := fun w => by
          rw [if_pos w] at hp
          rw [← hp] at hC
          exact hC
        by_cases w0 : k = 0
        · rw [if_pos w0]; exact endC (.inl w0)
        rw [if_neg w0]
        by_cases w1 : (c.length : Int) < at_ + k
        · rw [if_pos w1]; exact endC (.inr (by omega))
        rw [if_neg w1]
        rw [if_neg (by omega)] at hp
        have c1 : cutL (c.map D.int) (some (at_ : Int)) (some ((at_ : Int) + k)) = ((h :: t).take k.toNat).map D.int := by
          rw [cut_at (k := at_) (n := at_ + k.toNat) rfl (by omega) (by omega) (by rw [List.length_map]; omega), Nat.add_sub_cancel_left, ← List.map_drop, dr, ← List.map_take]
        have c3 : f.map tupI ++ [D.tup (((h :: t).take k.toNat).map D.int)] = (f ++ [(h :: t).take k.toNat]).map tupI := by rw [List.map_append]; rfl
        rw [c1, c3]
        refine ⟨sz (by omega), f ++ [(h :: t).take k.toNat], at_ + k.toNat, _, _, _, _, by rw [show ((at_ + k.toNat : Nat) : Int) = at_ + k by omega], by omega, by omega, by rw [List.length_append, List.length_singleton]; omega, n, by omega, ?_⟩
        rw [← List.drop_drop, dr]
        exact hp
  · rintro δ μ' ⟨rfl, f, at_, y3, y4, y5, y6, rfl, h1, h2, _⟩
    omega
end
end K70

namespace K70
open PySem PySem.Spec PyProof.Rows L2 NT
theorem nd_tupI (l : List Int) : (tupI l).nd = 1 + l.length := by
  unfold tupI
  simp only [D.nd]
  congr 1
  induction l with
  | nil => rfl
  | cons x l ih => simp only [List.map_cons, D.nds, D.nd, ih, List.length_cons]; omega
theorem nds_map (f : List (List Int)) : D.nds (f.map tupI) = f.length + f.flatten.length := by
  induction f with
  | nil => rfl
  | cons l f ih =>
    simp only [List.map_cons, D.nds, nd_tupI, ih, List.length_cons, List.flatten_cons, List.length_append]
    omega
theorem small_tupI {l : List Int} (h : ∀ x ∈ l, 0 ≤ x ∧ x < 2 ^ 62) : (tupI l).small = true := by
  unfold tupI
  simp only [D.small]
  induction l with
  | nil => rfl
  | cons x l ih =>
    have h1 := h x List.mem_cons_self
    simp only [List.map_cons, D.smalls, D.small, Bool.and_eq_true, decide_eq_true_eq]
    exact ⟨by omega, ih fun y hy => h y (List.mem_cons_of_mem _ hy)⟩
theorem smalls_map {f : List (List Int)} (h : ∀ x ∈ f.flatten, 0 ≤ x ∧ x < 2 ^ 62) : D.smalls (f.map tupI) = true := by
  induction f with
  | nil => rfl
  | cons l f ih =>
    simp only [List.map_cons, D.smalls, Bool.and_eq_true]
    exact ⟨small_tupI fun x hx => h x (by rw [List.flatten_cons]; exact List.mem_append_left _ hx), ih fun x hx => h x (by rw [List.flatten_cons]; exact List.mem_append_right _ hx)⟩
theorem v_len {h n : Int} {l : List Int} (h1 : h = 32 ∨ (h < 32 ∧ h % 4 = 0)) (h2 : n = l.length) (h3 : 1 ≤ l.length) : Valid (h :: n :: l) := by
  refine ⟨h, n :: l, rfl, fun r => ⟨fun z => ?_, ?_⟩⟩
  · rcases z with z | ⟨_, z⟩
    · omega
    · have e : n = 0 := Option.some.inj z
      omega
  · unfold lng
    rw [if_neg (by omega), if_neg (by omega), if_neg (by omega)]
    show 2 + n = _
    rw [List.length_cons]
    omega
theorem v_two {x : Int} (h : 1 ≤ x) : Valid [33, x] := by
  refine ⟨33, [x], rfl, fun r => ⟨fun z => ?_, rfl⟩⟩
  rcases z with z | ⟨_, z⟩
  · omega
  · have e : x = 0 := Option.some.inj z
    omega
theorem v_one {h : Int} (h1 : h < 32) (h2 : h % 4 = 1 ∨ h % 4 = 2) : Valid [h] := by
  refine ⟨h, [], rfl, fun r => ⟨fun z => ?_, ?_⟩⟩
  · rcases z with z | ⟨z, _⟩ <;> omega
  · unfold lng
    rw [if_neg (by omega), if_pos ⟨h1, h2⟩]
    rfl
theorem v_three {h x y : Int} (h1 : h < 32) (h2 : h % 4 = 3) : Valid [h, x, y] := by
  refine ⟨h, [x, y], rfl, fun r => ⟨fun z => ?_, ?_⟩⟩
  · rcases z with z | ⟨z, _⟩ <;> omega
  · unfold lng
    rw [if_neg (by omega), if_neg (by omega), if_pos ⟨h1, h2⟩]
    rfl
section
variable {K : PySem.W.Frag} {mg : Str → Option Value} {a : Ad} {μ : Mu} {C : P → Mu → Prop} {E : CX}
theorem same_tup {l : List Int} (o : ∀ x ∈ l, 0 ≤ x ∧ x < 2 ^ 62) (hl : l.length ≤ 2000) (hC : C (.val (.bl true)) μ) : d_law_same K a [tupI l, tupI l] μ C E :=
  sameA_t (okI l 59) (small_tupI o) (by have := nd_tupI l; unfold tupI at this; omega) hC
theorem ok_res (f : List (List Int)) (r : List Int) : (resD f r).ok 60 = true := by
  unfold resD
  rw [ok_tup]
  simp only [List.all_cons, List.all_nil, Bool.and_true, Bool.and_eq_true]
  refine ⟨?_, okI r 58⟩
  rw [ok_tup, List.all_map, List.all_eq_true]
  exact fun x _ => okI x 57
theorem same_res {f : List (List Int)} {r : List Int} (o : Oc (f.flatten ++ r)) (h1 : f.length ≤ 2000) (h2 : (f.flatten ++ r).length ≤ 2000) (hC : C (.val (.bl true)) μ) : d_law_same K a [resD f r, resD f r] μ C E := by
  have big : ∀ x ∈ f.flatten ++ r, 0 ≤ x ∧ x < 2 ^ 62 := fun x hx => ⟨(o x hx).1, by have := (o x hx).2; omega⟩
  rw [List.length_append] at h2
  refine sameA_t (ds := [.tup (f.map tupI), tupI r]) (ok_res f r) ?_ ?_ hC
  · simp only [D.small, D.smalls, Bool.and_true, Bool.and_eq_true]
    exact ⟨smalls_map fun x hx => big x (List.mem_append_left _ hx), small_tupI fun x hx => big x (List.mem_append_right _ hx)⟩
  · simp only [D.nd, D.nds, nd_tupI, nds_map]
    omega
theorem told_ (T : Tx K mg a) {c : List Int} (o : Oc c) (hl : c.length ≤ 900) (hC : C (.val (resO (pm (c.length + 1) [] c))) μ) : d_law_told K a [tupI c] μ C E := by
  refine ⟨rfl, ?_⟩
  unfold b_law_told fTryL
  (try simp only [fAsg, fPar, fPar2, fPar3, fIfS, fRet, fRetN, fDrop, fNil, fBreak, fCont, fAugN, fAugF, fApp, fRaise, mvL, moved, eVar, eVal, eOp2, eOp1, eTup, eLst, eNew, eIf, eAnd2, eOr2, eNot1, eFrz, asD, asB, eFld, eCall, eMake, eMeth, eSl, oNone, oSome, aNil, aCons, lNil, lCons, gNm, gNmS, gFd, gIx, gTp, gsNil, gsCons, tTru, tBool, tAnd2, tOr2, tNot1, tYesD, addM_i, addM_s, addM_t, addM_oo, addM_bo, addM_ob, addM_lo, addM_ol, addM_ll, subM_i, mulM_i, mulM_o, mulT_t, fdivM_i, modM_i, intAddM_i, cmpM_i, min2M_i, max2M_i, negM_i, absM_i, toIntM_i, isnM_any, isN, eqM_i, eqM_b, eqM_s, eqM_t, ixM_t, ixM_o, ixM_l, ixM_k, ixM_r, ixM_b, truM_b, truM_i, truM_n, truM_t, truM_o, lenM, sumM, sumA, tupM, listM, slM, lget, lgetR, lput, iRng1D, iRng2D, iSeq, itOf, eDnew, eDic, eDgt, dgtC, dgM, gDk, keyD, asD, neNilM, List.map_cons, List.map_nil, List.replicate_zero, List.replicate_succ, List.cons_append, List.nil_append, List.append_nil, List.getElem?_cons_succ, List.getElem?_cons_zero, List.set_cons_zero, List.set_cons_succ, List.length_cons, List.length_nil, Nat.reduceAdd, Nat.reduceSub, Nat.reduceLT, Nat.reduceLeDiff, Nat.sub_self, decide_eq_true_eq, sz0, sz1, sz2, sz3, sz4, sz5, sz6, sz7, sz8, ok_int, ok_bl, ok_non, ok_tup, ok_lst, eqb_int, eqb_bl, at0, at1, at2, at3, at4, at5, beq_iff_eq, ite_true, ite_false, Bool.false_eq_true, if_true, if_false, true_and, and_true, false_and, Bool.not_true, Bool.not_false])
  refine parted_ T o hl (fun z => ?_) fun f r z => ?_
  · unfold bf exm
    (try simp only [fAsg, fPar, fPar2, fPar3, fIfS, fRet, fRetN, fDrop, fNil, fBreak, fCont, fAugN, fAugF, fApp, fRaise, mvL, moved, eVar, eVal, eOp2, eOp1, eTup, eLst, eNew, eIf, eAnd2, eOr2, eNot1, eFrz, asD, asB, eFld, eCall, eMake, eMeth, eSl, oNone, oSome, aNil, aCons, lNil, lCons, gNm, gNmS, gFd, gIx, gTp, gsNil, gsCons, tTru, tBool, tAnd2, tOr2, tNot1, tYesD, addM_i, addM_s, addM_t, addM_oo, addM_bo, addM_ob, addM_lo, addM_ol, addM_ll, subM_i, mulM_i, mulM_o, mulT_t, fdivM_i, modM_i, intAddM_i, cmpM_i, min2M_i, max2M_i, negM_i, absM_i, toIntM_i, isnM_any, isN, eqM_i, eqM_b, eqM_s, eqM_t, ixM_t, ixM_o, ixM_l, ixM_k, ixM_r, ixM_b, truM_b, truM_i, truM_n, truM_t, truM_o, lenM, sumM, sumA, tupM, listM, slM, lget, lgetR, lput, iRng1D, iRng2D, iSeq, itOf, eDnew, eDic, eDgt, dgtC, dgM, gDk, keyD, asD, neNilM, List.map_cons, List.map_nil, List.replicate_zero, List.replicate_succ, List.cons_append, List.nil_append, List.append_nil, List.getElem?_cons_succ, List.getElem?_cons_zero, List.set_cons_zero, List.set_cons_succ, List.length_cons, List.length_nil, Nat.reduceAdd, Nat.reduceSub, Nat.reduceLT, Nat.reduceLeDiff, Nat.sub_self, decide_eq_true_eq, sz0, sz1, sz2, sz3, sz4, sz5, sz6, sz7, sz8, ok_int, ok_bl, ok_non, ok_tup, ok_lst, eqb_int, eqb_bl, at0, at1, at2, at3, at4, at5, beq_iff_eq, ite_true, ite_false, Bool.false_eq_true, if_true, if_false, true_and, and_true, false_and, Bool.not_true, Bool.not_false, T.e_BadForm_BadForm])
    rw [z] at hC
    exact ⟨0, rfl, by rw [if_pos rfl]; exact hC⟩
  · rw [z] at hC
    exact hC
theorem take__ {n : Nat} {many : Int} (d : Draw μ n) (h1 : 0 < many) (h2 : many < 2 ^ 64) (hC : ∀ v μ', 0 ≤ v → v < many → Draw μ' n → Oth n μ μ' → C (.val (.int v)) μ') : d_law_take K a [.ref n, .int many] μ C E := take_ d h1 h2 hC
theorem octets_ {most : Int} (d : Draw μ 0) (h1 : 0 < most) (h2 : most ≤ 300) (hC : ∀ (l : List Int) μ', Oc l → 1 ≤ l.length → (l.length : Int) ≤ most → Draw μ' 0 → C (.val (tupI l)) μ') : d_law_octets K a [.ref 0, .int most] μ C E := by
  refine ⟨rfl, ?_⟩
  unfold b_law_octets
  (try simp only [fAsg, fPar, fPar2, fPar3, fIfS, fRet, fRetN, fDrop, fNil, fBreak, fCont, fAugN, fAugF, fApp, fRaise, mvL, moved, eVar, eVal, eOp2, eOp1, eTup, eLst, eNew, eIf, eAnd2, eOr2, eNot1, eFrz, asD, asB, eFld, eCall, eMake, eMeth, eSl, oNone, oSome, aNil, aCons, lNil, lCons, gNm, gNmS, gFd, gIx, gTp, gsNil, gsCons, tTru, tBool, tAnd2, tOr2, tNot1, tYesD, addM_i, addM_s, addM_t, addM_oo, addM_bo, addM_ob, addM_lo, addM_ol, addM_ll, subM_i, mulM_i, mulM_o, mulT_t, fdivM_i, modM_i, intAddM_i, cmpM_i, min2M_i, max2M_i, negM_i, absM_i, toIntM_i, isnM_any, isN, eqM_i, eqM_b, eqM_s, eqM_t, ixM_t, ixM_o, ixM_l, ixM_k, ixM_r, ixM_b, truM_b, truM_i, truM_n, truM_t, truM_o, lenM, sumM, sumA, tupM, listM, slM, lget, lgetR, lput, iRng1D, iRng2D, iSeq, itOf, eDnew, eDic, eDgt, dgtC, dgM, gDk, keyD, asD, neNilM, List.map_cons, List.map_nil, List.replicate_zero, List.replicate_succ, List.cons_append, List.nil_append, List.append_nil, List.getElem?_cons_succ, List.getElem?_cons_zero, List.set_cons_zero, List.set_cons_succ, List.length_cons, List.length_nil, Nat.reduceAdd, Nat.reduceSub, Nat.reduceLT, Nat.reduceLeDiff, Nat.sub_self, decide_eq_true_eq, sz0, sz1, sz2, sz3, sz4, sz5, sz6, sz7, sz8, ok_int, ok_bl, ok_non, ok_tup, ok_lst, eqb_int, eqb_bl, at0, at1, at2, at3, at4, at5, beq_iff_eq, ite_true, ite_false, Bool.false_eq_true, if_true, if_false, true_and, and_true, false_and, Bool.not_true, Bool.not_false, eLc_eq])
  refine take__ d h1 (by omega) fun k μ k0 k1 d _ => ?_
  (try simp only [fAsg, fPar, fPar2, fPar3, fIfS, fRet, fRetN, fDrop, fNil, fBreak, fCont, fAugN, fAugF, fApp, fRaise, mvL, moved, eVar, eVal, eOp2, eOp1, eTup, eLst, eNew, eIf, eAnd2, eOr2, eNot1, eFrz, asD, asB, eFld, eCall, eMake, eMeth, eSl, oNone, oSome, aNil, aCons, lNil, lCons, gNm, gNmS, gFd, gIx, gTp, gsNil, gsCons, tTru, tBool, tAnd2, tOr2, tNot1, tYesD, addM_i, addM_s, addM_t, addM_oo, addM_bo, addM_ob, addM_lo, addM_ol, addM_ll, subM_i, mulM_i, mulM_o, mulT_t, fdivM_i, modM_i, intAddM_i, cmpM_i, min2M_i, max2M_i, negM_i, absM_i, toIntM_i, isnM_any, isN, eqM_i, eqM_b, eqM_s, eqM_t, ixM_t, ixM_o, ixM_l, ixM_k, ixM_r, ixM_b, truM_b, truM_i, truM_n, truM_t, truM_o, lenM, sumM, sumA, tupM, listM, slM, lget, lgetR, lput, iRng1D, iRng2D, iSeq, itOf, eDnew, eDic, eDgt, dgtC, dgM, gDk, keyD, asD, neNilM, List.map_cons, List.map_nil, List.replicate_zero, List.replicate_succ, List.cons_append, List.nil_append, List.append_nil, List.getElem?_cons_succ, List.getElem?_cons_zero, List.set_cons_zero, List.set_cons_succ, List.length_cons, List.length_nil, Nat.reduceAdd, Nat.reduceSub, Nat.reduceLT, Nat.reduceLeDiff, Nat.sub_self, decide_eq_true_eq, sz0, sz1, sz2, sz3, sz4, sz5, sz6, sz7, sz8, ok_int, ok_bl, ok_non, ok_tup, ok_lst, eqb_int, eqb_bl, at0, at1, at2, at3, at4, at5, beq_iff_eq, ite_true, ite_false, Bool.false_eq_true, if_true, if_false, true_and, and_true, false_and, Bool.not_true, Bool.not_false])
  refine ⟨⟨by omega, by omega⟩, ?_⟩
  refine lc_rngN (fun i acc μ' => ∃ l : List Int, acc = l.map D.int ∧ l.length = i ∧ Oc l ∧ Draw μ' 0) (sz (by omega)) ⟨[], rfl, rfl, Oc.nil, d⟩ (fun i acc μ' ⟨l, e, h, _⟩ => by rw [e, List.length_map, h]) (fun i acc μ' lt ⟨l, e, h, o, d⟩ => ?_) (fun acc μ ⟨l, e, h, o, hd⟩ ad => ?_)
  · refine ⟨_, rfl, ?_⟩
    (try simp only [fAsg, fPar, fPar2, fPar3, fIfS, fRet, fRetN, fDrop, fNil, fBreak, fCont, fAugN, fAugF, fApp, fRaise, mvL, moved, eVar, eVal, eOp2, eOp1, eTup, eLst, eNew, eIf, eAnd2, eOr2, eNot1, eFrz, asD, asB, eFld, eCall, eMake, eMeth, eSl, oNone, oSome, aNil, aCons, lNil, lCons, gNm, gNmS, gFd, gIx, gTp, gsNil, gsCons, tTru, tBool, tAnd2, tOr2, tNot1, tYesD, addM_i, addM_s, addM_t, addM_oo, addM_bo, addM_ob, addM_lo, addM_ol, addM_ll, subM_i, mulM_i, mulM_o, mulT_t, fdivM_i, modM_i, intAddM_i, cmpM_i, min2M_i, max2M_i, negM_i, absM_i, toIntM_i, isnM_any, isN, eqM_i, eqM_b, eqM_s, eqM_t, ixM_t, ixM_o, ixM_l, ixM_k, ixM_r, ixM_b, truM_b, truM_i, truM_n, truM_t, truM_o, lenM, sumM, sumA, tupM, listM, slM, lget, lgetR, lput, iRng1D, iRng2D, iSeq, itOf, eDnew, eDic, eDgt, dgtC, dgM, gDk, keyD, asD, neNilM, List.map_cons, List.map_nil, List.replicate_zero, List.replicate_succ, List.cons_append, List.nil_append, List.append_nil, List.getElem?_cons_succ, List.getElem?_cons_zero, List.set_cons_zero, List.set_cons_succ, List.length_cons, List.length_nil, Nat.reduceAdd, Nat.reduceSub, Nat.reduceLT, Nat.reduceLeDiff, Nat.sub_self, decide_eq_true_eq, sz0, sz1, sz2, sz3, sz4, sz5, sz6, sz7, sz8, ok_int, ok_bl, ok_non, ok_tup, ok_lst, eqb_int, eqb_bl, at0, at1, at2, at3, at4, at5, beq_iff_eq, ite_true, ite_false, Bool.false_eq_true, if_true, if_false, true_and, and_true, false_and, Bool.not_true, Bool.not_false, wipeD])
    refine take__ d (by decide) (by decide) fun p μ2 p0 p1 d2 _ => ?_
    (try simp only [fAsg, fPar, fPar2, fPar3, fIfS, fRet, fRetN, fDrop, fNil, fBreak, fCont, fAugN, fAugF, fApp, fRaise, mvL, moved, eVar, eVal, eOp2, eOp1, eTup, eLst, eNew, eIf, eAnd2, eOr2, eNot1, eFrz, asD, asB, eFld, eCall, eMake, eMeth, eSl, oNone, oSome, aNil, aCons, lNil, lCons, gNm, gNmS, gFd, gIx, gTp, gsNil, gsCons, tTru, tBool, tAnd2, tOr2, tNot1, tYesD, addM_i, addM_s, addM_t, addM_oo, addM_bo, addM_ob, addM_lo, addM_ol, addM_ll, subM_i, mulM_i, mulM_o, mulT_t, fdivM_i, modM_i, intAddM_i, cmpM_i, min2M_i, max2M_i, negM_i, absM_i, toIntM_i, isnM_any, isN, eqM_i, eqM_b, eqM_s, eqM_t, ixM_t, ixM_o, ixM_l, ixM_k, ixM_r, ixM_b, truM_b, truM_i, truM_n, truM_t, truM_o, lenM, sumM, sumA, tupM, listM, slM, lget, lgetR, lput, iRng1D, iRng2D, iSeq, itOf, eDnew, eDic, eDgt, dgtC, dgM, gDk, keyD, asD, neNilM, List.map_cons, List.map_nil, List.replicate_zero, List.replicate_succ, List.cons_append, List.nil_append, List.append_nil, List.getElem?_cons_succ, List.getElem?_cons_zero, List.set_cons_zero, List.set_cons_succ, List.length_cons, List.length_nil, Nat.reduceAdd, Nat.reduceSub, Nat.reduceLT, Nat.reduceLeDiff, Nat.sub_self, decide_eq_true_eq, sz0, sz1, sz2, sz3, sz4, sz5, sz6, sz7, sz8, ok_int, ok_bl, ok_non, ok_tup, ok_lst, eqb_int, eqb_bl, at0, at1, at2, at3, at4, at5, beq_iff_eq, ite_true, ite_false, Bool.false_eq_true, if_true, if_false, true_and, and_true, false_and, Bool.not_true, Bool.not_false])
    exact ⟨l ++ [p], by rw [e, List.map_append]; rfl, by rw [List.length_append, h]; rfl, o.app (Oc.cons ⟨p0, p1⟩ Oc.nil), d2⟩
  · subst e
    (try simp only [fAsg, fPar, fPar2, fPar3, fIfS, fRet, fRetN, fDrop, fNil, fBreak, fCont, fAugN, fAugF, fApp, fRaise, mvL, moved, eVar, eVal, eOp2, eOp1, eTup, eLst, eNew, eIf, eAnd2, eOr2, eNot1, eFrz, asD, asB, eFld, eCall, eMake, eMeth, eSl, oNone, oSome, aNil, aCons, lNil, lCons, gNm, gNmS, gFd, gIx, gTp, gsNil, gsCons, tTru, tBool, tAnd2, tOr2, tNot1, tYesD, addM_i, addM_s, addM_t, addM_oo, addM_bo, addM_ob, addM_lo, addM_ol, addM_ll, subM_i, mulM_i, mulM_o, mulT_t, fdivM_i, modM_i, intAddM_i, cmpM_i, min2M_i, max2M_i, negM_i, absM_i, toIntM_i, isnM_any, isN, eqM_i, eqM_b, eqM_s, eqM_t, ixM_t, ixM_o, ixM_l, ixM_k, ixM_r, ixM_b, truM_b, truM_i, truM_n, truM_t, truM_o, lenM, sumM, sumA, tupM, listM, slM, lget, lgetR, lput, iRng1D, iRng2D, iSeq, itOf, eDnew, eDic, eDgt, dgtC, dgM, gDk, keyD, asD, neNilM, List.map_cons, List.map_nil, List.replicate_zero, List.replicate_succ, List.cons_append, List.nil_append, List.append_nil, List.getElem?_cons_succ, List.getElem?_cons_zero, List.set_cons_zero, List.set_cons_succ, List.length_cons, List.length_nil, Nat.reduceAdd, Nat.reduceSub, Nat.reduceLT, Nat.reduceLeDiff, Nat.sub_self, decide_eq_true_eq, sz0, sz1, sz2, sz3, sz4, sz5, sz6, sz7, sz8, ok_int, ok_bl, ok_non, ok_tup, ok_lst, eqb_int, eqb_bl, at0, at1, at2, at3, at4, at5, beq_iff_eq, ite_true, ite_false, Bool.false_eq_true, if_true, if_false, true_and, and_true, false_and, Bool.not_true, Bool.not_false])
    exact hC l μ o (by omega) (by omega) hd
theorem frame_ (d : Draw μ 0) (hC : ∀ (l : List Int) μ', Oc l → Valid l → l.length ≤ 22 → Draw μ' 0 → C (.val (tupI l)) μ') : d_law_frame K a [.ref 0] μ C E := by
  refine ⟨rfl, fCons.go ?_⟩
  (try simp only [fAsg, fPar, fPar2, fPar3, fIfS, fRet, fRetN, fDrop, fNil, fBreak, fCont, fAugN, fAugF, fApp, fRaise, mvL, moved, eVar, eVal, eOp2, eOp1, eTup, eLst, eNew, eIf, eAnd2, eOr2, eNot1, eFrz, asD, asB, eFld, eCall, eMake, eMeth, eSl, oNone, oSome, aNil, aCons, lNil, lCons, gNm, gNmS, gFd, gIx, gTp, gsNil, gsCons, tTru, tBool, tAnd2, tOr2, tNot1, tYesD, addM_i, addM_s, addM_t, addM_oo, addM_bo, addM_ob, addM_lo, addM_ol, addM_ll, subM_i, mulM_i, mulM_o, mulT_t, fdivM_i, modM_i, intAddM_i, cmpM_i, min2M_i, max2M_i, negM_i, absM_i, toIntM_i, isnM_any, isN, eqM_i, eqM_b, eqM_s, eqM_t, ixM_t, ixM_o, ixM_l, ixM_k, ixM_r, ixM_b, truM_b, truM_i, truM_n, truM_t, truM_o, lenM, sumM, sumA, tupM, listM, slM, lget, lgetR, lput, iRng1D, iRng2D, iSeq, itOf, eDnew, eDic, eDgt, dgtC, dgM, gDk, keyD, asD, neNilM, List.map_cons, List.map_nil, List.replicate_zero, List.replicate_succ, List.cons_append, List.nil_append, List.append_nil, List.getElem?_cons_succ, List.getElem?_cons_zero, List.set_cons_zero, List.set_cons_succ, List.length_cons, List.length_nil, Nat.reduceAdd, Nat.reduceSub, Nat.reduceLT, Nat.reduceLeDiff, Nat.sub_self, decide_eq_true_eq, sz0, sz1, sz2, sz3, sz4, sz5, sz6, sz7, sz8, ok_int, ok_bl, ok_non, ok_tup, ok_lst, eqb_int, eqb_bl, at0, at1, at2, at3, at4, at5, beq_iff_eq, ite_true, ite_false, Bool.false_eq_true, if_true, if_false, true_and, and_true, false_and, Bool.not_true, Bool.not_false])
  refine take__ d (by decide) (by decide) fun kind μ k0 k1 d _ => ?_
  (try simp only [fAsg, fPar, fPar2, fPar3, fIfS, fRet, fRetN, fDrop, fNil, fBreak, fCont, fAugN, fAugF, fApp, fRaise, mvL, moved, eVar, eVal, eOp2, eOp1, eTup, eLst, eNew, eIf, eAnd2, eOr2, eNot1, eFrz, asD, asB, eFld, eCall, eMake, eMeth, eSl, oNone, oSome, aNil, aCons, lNil, lCons, gNm, gNmS, gFd, gIx, gTp, gsNil, gsCons, tTru, tBool, tAnd2, tOr2, tNot1, tYesD, addM_i, addM_s, addM_t, addM_oo, addM_bo, addM_ob, addM_lo, addM_ol, addM_ll, subM_i, mulM_i, mulM_o, mulT_t, fdivM_i, modM_i, intAddM_i, cmpM_i, min2M_i, max2M_i, negM_i, absM_i, toIntM_i, isnM_any, isN, eqM_i, eqM_b, eqM_s, eqM_t, ixM_t, ixM_o, ixM_l, ixM_k, ixM_r, ixM_b, truM_b, truM_i, truM_n, truM_t, truM_o, lenM, sumM, sumA, tupM, listM, slM, lget, lgetR, lput, iRng1D, iRng2D, iSeq, itOf, eDnew, eDic, eDgt, dgtC, dgM, gDk, keyD, asD, neNilM, List.map_cons, List.map_nil, List.replicate_zero, List.replicate_succ, List.cons_append, List.nil_append, List.append_nil, List.getElem?_cons_succ, List.getElem?_cons_zero, List.set_cons_zero, List.set_cons_succ, List.length_cons, List.length_nil, Nat.reduceAdd, Nat.reduceSub, Nat.reduceLT, Nat.reduceLeDiff, Nat.sub_self, decide_eq_true_eq, sz0, sz1, sz2, sz3, sz4, sz5, sz6, sz7, sz8, ok_int, ok_bl, ok_non, ok_tup, ok_lst, eqb_int, eqb_bl, at0, at1, at2, at3, at4, at5, beq_iff_eq, ite_true, ite_false, Bool.false_eq_true, if_true, if_false, true_and, and_true, false_and, Bool.not_true, Bool.not_false])
  refine take__ d (by decide) (by decide) fun s μ s0 s1 d _ => ?_
  (try simp only [fAsg, fPar, fPar2, fPar3, fIfS, fRet, fRetN, fDrop, fNil, fBreak, fCont, fAugN, fAugF, fApp, fRaise, mvL, moved, eVar, eVal, eOp2, eOp1, eTup, eLst, eNew, eIf, eAnd2, eOr2, eNot1, eFrz, asD, asB, eFld, eCall, eMake, eMeth, eSl, oNone, oSome, aNil, aCons, lNil, lCons, gNm, gNmS, gFd, gIx, gTp, gsNil, gsCons, tTru, tBool, tAnd2, tOr2, tNot1, tYesD, addM_i, addM_s, addM_t, addM_oo, addM_bo, addM_ob, addM_lo, addM_ol, addM_ll, subM_i, mulM_i, mulM_o, mulT_t, fdivM_i, modM_i, intAddM_i, cmpM_i, min2M_i, max2M_i, negM_i, absM_i, toIntM_i, isnM_any, isN, eqM_i, eqM_b, eqM_s, eqM_t, ixM_t, ixM_o, ixM_l, ixM_k, ixM_r, ixM_b, truM_b, truM_i, truM_n, truM_t, truM_o, lenM, sumM, sumA, tupM, listM, slM, lget, lgetR, lput, iRng1D, iRng2D, iSeq, itOf, eDnew, eDic, eDgt, dgtC, dgM, gDk, keyD, asD, neNilM, List.map_cons, List.map_nil, List.replicate_zero, List.replicate_succ, List.cons_append, List.nil_append, List.append_nil, List.getElem?_cons_succ, List.getElem?_cons_zero, List.set_cons_zero, List.set_cons_succ, List.length_cons, List.length_nil, Nat.reduceAdd, Nat.reduceSub, Nat.reduceLT, Nat.reduceLeDiff, Nat.sub_self, decide_eq_true_eq, sz0, sz1, sz2, sz3, sz4, sz5, sz6, sz7, sz8, ok_int, ok_bl, ok_non, ok_tup, ok_lst, eqb_int, eqb_bl, at0, at1, at2, at3, at4, at5, beq_iff_eq, ite_true, ite_false, Bool.false_eq_true, if_true, if_false, true_and, and_true, false_and, Bool.not_true, Bool.not_false])
  refine fCons.go ?_
  (try simp only [fAsg, fPar, fPar2, fPar3, fIfS, fRet, fRetN, fDrop, fNil, fBreak, fCont, fAugN, fAugF, fApp, fRaise, mvL, moved, eVar, eVal, eOp2, eOp1, eTup, eLst, eNew, eIf, eAnd2, eOr2, eNot1, eFrz, asD, asB, eFld, eCall, eMake, eMeth, eSl, oNone, oSome, aNil, aCons, lNil, lCons, gNm, gNmS, gFd, gIx, gTp, gsNil, gsCons, tTru, tBool, tAnd2, tOr2, tNot1, tYesD, addM_i, addM_s, addM_t, addM_oo, addM_bo, addM_ob, addM_lo, addM_ol, addM_ll, subM_i, mulM_i, mulM_o, mulT_t, fdivM_i, modM_i, intAddM_i, cmpM_i, min2M_i, max2M_i, negM_i, absM_i, toIntM_i, isnM_any, isN, eqM_i, eqM_b, eqM_s, eqM_t, ixM_t, ixM_o, ixM_l, ixM_k, ixM_r, ixM_b, truM_b, truM_i, truM_n, truM_t, truM_o, lenM, sumM, sumA, tupM, listM, slM, lget, lgetR, lput, iRng1D, iRng2D, iSeq, itOf, eDnew, eDic, eDgt, dgtC, dgM, gDk, keyD, asD, neNilM, List.map_cons, List.map_nil, List.replicate_zero, List.replicate_succ, List.cons_append, List.nil_append, List.append_nil, List.getElem?_cons_succ, List.getElem?_cons_zero, List.set_cons_zero, List.set_cons_succ, List.length_cons, List.length_nil, Nat.reduceAdd, Nat.reduceSub, Nat.reduceLT, Nat.reduceLeDiff, Nat.sub_self, decide_eq_true_eq, sz0, sz1, sz2, sz3, sz4, sz5, sz6, sz7, sz8, ok_int, ok_bl, ok_non, ok_tup, ok_lst, eqb_int, eqb_bl, at0, at1, at2, at3, at4, at5, beq_iff_eq, ite_true, ite_false, Bool.false_eq_true, if_true, if_false, true_and, and_true, false_and, Bool.not_true, Bool.not_false])
  by_cases q0 : kind = 0
  · rw [if_pos q0]
    refine fCons.go ?_
    (try simp only [fAsg, fPar, fPar2, fPar3, fIfS, fRet, fRetN, fDrop, fNil, fBreak, fCont, fAugN, fAugF, fApp, fRaise, mvL, moved, eVar, eVal, eOp2, eOp1, eTup, eLst, eNew, eIf, eAnd2, eOr2, eNot1, eFrz, asD, asB, eFld, eCall, eMake, eMeth, eSl, oNone, oSome, aNil, aCons, lNil, lCons, gNm, gNmS, gFd, gIx, gTp, gsNil, gsCons, tTru, tBool, tAnd2, tOr2, tNot1, tYesD, addM_i, addM_s, addM_t, addM_oo, addM_bo, addM_ob, addM_lo, addM_ol, addM_ll, subM_i, mulM_i, mulM_o, mulT_t, fdivM_i, modM_i, intAddM_i, cmpM_i, min2M_i, max2M_i, negM_i, absM_i, toIntM_i, isnM_any, isN, eqM_i, eqM_b, eqM_s, eqM_t, ixM_t, ixM_o, ixM_l, ixM_k, ixM_r, ixM_b, truM_b, truM_i, truM_n, truM_t, truM_o, lenM, sumM, sumA, tupM, listM, slM, lget, lgetR, lput, iRng1D, iRng2D, iSeq, itOf, eDnew, eDic, eDgt, dgtC, dgM, gDk, keyD, asD, neNilM, List.map_cons, List.map_nil, List.replicate_zero, List.replicate_succ, List.cons_append, List.nil_append, List.append_nil, List.getElem?_cons_succ, List.getElem?_cons_zero, List.set_cons_zero, List.set_cons_succ, List.length_cons, List.length_nil, Nat.reduceAdd, Nat.reduceSub, Nat.reduceLT, Nat.reduceLeDiff, Nat.sub_self, decide_eq_true_eq, sz0, sz1, sz2, sz3, sz4, sz5, sz6, sz7, sz8, ok_int, ok_bl, ok_non, ok_tup, ok_lst, eqb_int, eqb_bl, at0, at1, at2, at3, at4, at5, beq_iff_eq, ite_true, ite_false, Bool.false_eq_true, if_true, if_false, true_and, and_true, false_and, Bool.not_true, Bool.not_false])
    refine octets_ d (by decide) (by decide) fun l μ o l1 l2 d => ?_
    unfold tupI
    (try simp only [fAsg, fPar, fPar2, fPar3, fIfS, fRet, fRetN, fDrop, fNil, fBreak, fCont, fAugN, fAugF, fApp, fRaise, mvL, moved, eVar, eVal, eOp2, eOp1, eTup, eLst, eNew, eIf, eAnd2, eOr2, eNot1, eFrz, asD, asB, eFld, eCall, eMake, eMeth, eSl, oNone, oSome, aNil, aCons, lNil, lCons, gNm, gNmS, gFd, gIx, gTp, gsNil, gsCons, tTru, tBool, tAnd2, tOr2, tNot1, tYesD, addM_i, addM_s, addM_t, addM_oo, addM_bo, addM_ob, addM_lo, addM_ol, addM_ll, subM_i, mulM_i, mulM_o, mulT_t, fdivM_i, modM_i, intAddM_i, cmpM_i, min2M_i, max2M_i, negM_i, absM_i, toIntM_i, isnM_any, isN, eqM_i, eqM_b, eqM_s, eqM_t, ixM_t, ixM_o, ixM_l, ixM_k, ixM_r, ixM_b, truM_b, truM_i, truM_n, truM_t, truM_o, lenM, sumM, sumA, tupM, listM, slM, lget, lgetR, lput, iRng1D, iRng2D, iSeq, itOf, eDnew, eDic, eDgt, dgtC, dgM, gDk, keyD, asD, neNilM, List.map_cons, List.map_nil, List.replicate_zero, List.replicate_succ, List.cons_append, List.nil_append, List.append_nil, List.getElem?_cons_succ, List.getElem?_cons_zero, List.set_cons_zero, List.set_cons_succ, List.length_cons, List.length_nil, Nat.reduceAdd, Nat.reduceSub, Nat.reduceLT, Nat.reduceLeDiff, Nat.sub_self, decide_eq_true_eq, sz0, sz1, sz2, sz3, sz4, sz5, sz6, sz7, sz8, ok_int, ok_bl, ok_non, ok_tup, ok_lst, eqb_int, eqb_bl, at0, at1, at2, at3, at4, at5, beq_iff_eq, ite_true, ite_false, Bool.false_eq_true, if_true, if_false, true_and, and_true, false_and, Bool.not_true, Bool.not_false, List.length_map])
    exact ⟨sz (by omega), hC (32 :: (l.length : Int) :: l) μ (Oc.cons (by omega) (Oc.cons (by omega) o)) (v_len (.inl rfl) rfl l1) (by simp; omega) d⟩
  rw [if_neg q0]
  refine fCons.go ?_
  (try simp only [fAsg, fPar, fPar2, fPar3, fIfS, fRet, fRetN, fDrop, fNil, fBreak, fCont, fAugN, fAugF, fApp, fRaise, mvL, moved, eVar, eVal, eOp2, eOp1, eTup, eLst, eNew, eIf, eAnd2, eOr2, eNot1, eFrz, asD, asB, eFld, eCall, eMake, eMeth, eSl, oNone, oSome, aNil, aCons, lNil, lCons, gNm, gNmS, gFd, gIx, gTp, gsNil, gsCons, tTru, tBool, tAnd2, tOr2, tNot1, tYesD, addM_i, addM_s, addM_t, addM_oo, addM_bo, addM_ob, addM_lo, addM_ol, addM_ll, subM_i, mulM_i, mulM_o, mulT_t, fdivM_i, modM_i, intAddM_i, cmpM_i, min2M_i, max2M_i, negM_i, absM_i, toIntM_i, isnM_any, isN, eqM_i, eqM_b, eqM_s, eqM_t, ixM_t, ixM_o, ixM_l, ixM_k, ixM_r, ixM_b, truM_b, truM_i, truM_n, truM_t, truM_o, lenM, sumM, sumA, tupM, listM, slM, lget, lgetR, lput, iRng1D, iRng2D, iSeq, itOf, eDnew, eDic, eDgt, dgtC, dgM, gDk, keyD, asD, neNilM, List.map_cons, List.map_nil, List.replicate_zero, List.replicate_succ, List.cons_append, List.nil_append, List.append_nil, List.getElem?_cons_succ, List.getElem?_cons_zero, List.set_cons_zero, List.set_cons_succ, List.length_cons, List.length_nil, Nat.reduceAdd, Nat.reduceSub, Nat.reduceLT, Nat.reduceLeDiff, Nat.sub_self, decide_eq_true_eq, sz0, sz1, sz2, sz3, sz4, sz5, sz6, sz7, sz8, ok_int, ok_bl, ok_non, ok_tup, ok_lst, eqb_int, eqb_bl, at0, at1, at2, at3, at4, at5, beq_iff_eq, ite_true, ite_false, Bool.false_eq_true, if_true, if_false, true_and, and_true, false_and, Bool.not_true, Bool.not_false])
  by_cases q1 : kind = 1
  · rw [if_pos q1]
    (try simp only [fAsg, fPar, fPar2, fPar3, fIfS, fRet, fRetN, fDrop, fNil, fBreak, fCont, fAugN, fAugF, fApp, fRaise, mvL, moved, eVar, eVal, eOp2, eOp1, eTup, eLst, eNew, eIf, eAnd2, eOr2, eNot1, eFrz, asD, asB, eFld, eCall, eMake, eMeth, eSl, oNone, oSome, aNil, aCons, lNil, lCons, gNm, gNmS, gFd, gIx, gTp, gsNil, gsCons, tTru, tBool, tAnd2, tOr2, tNot1, tYesD, addM_i, addM_s, addM_t, addM_oo, addM_bo, addM_ob, addM_lo, addM_ol, addM_ll, subM_i, mulM_i, mulM_o, mulT_t, fdivM_i, modM_i, intAddM_i, cmpM_i, min2M_i, max2M_i, negM_i, absM_i, toIntM_i, isnM_any, isN, eqM_i, eqM_b, eqM_s, eqM_t, ixM_t, ixM_o, ixM_l, ixM_k, ixM_r, ixM_b, truM_b, truM_i, truM_n, truM_t, truM_o, lenM, sumM, sumA, tupM, listM, slM, lget, lgetR, lput, iRng1D, iRng2D, iSeq, itOf, eDnew, eDic, eDgt, dgtC, dgM, gDk, keyD, asD, neNilM, List.map_cons, List.map_nil, List.replicate_zero, List.replicate_succ, List.cons_append, List.nil_append, List.append_nil, List.getElem?_cons_succ, List.getElem?_cons_zero, List.set_cons_zero, List.set_cons_succ, List.length_cons, List.length_nil, Nat.reduceAdd, Nat.reduceSub, Nat.reduceLT, Nat.reduceLeDiff, Nat.sub_self, decide_eq_true_eq, sz0, sz1, sz2, sz3, sz4, sz5, sz6, sz7, sz8, ok_int, ok_bl, ok_non, ok_tup, ok_lst, eqb_int, eqb_bl, at0, at1, at2, at3, at4, at5, beq_iff_eq, ite_true, ite_false, Bool.false_eq_true, if_true, if_false, true_and, and_true, false_and, Bool.not_true, Bool.not_false])
    refine take__ d (by decide) (by decide) fun x μ x0 x1 d _ => ?_
    (try simp only [fAsg, fPar, fPar2, fPar3, fIfS, fRet, fRetN, fDrop, fNil, fBreak, fCont, fAugN, fAugF, fApp, fRaise, mvL, moved, eVar, eVal, eOp2, eOp1, eTup, eLst, eNew, eIf, eAnd2, eOr2, eNot1, eFrz, asD, asB, eFld, eCall, eMake, eMeth, eSl, oNone, oSome, aNil, aCons, lNil, lCons, gNm, gNmS, gFd, gIx, gTp, gsNil, gsCons, tTru, tBool, tAnd2, tOr2, tNot1, tYesD, addM_i, addM_s, addM_t, addM_oo, addM_bo, addM_ob, addM_lo, addM_ol, addM_ll, subM_i, mulM_i, mulM_o, mulT_t, fdivM_i, modM_i, intAddM_i, cmpM_i, min2M_i, max2M_i, negM_i, absM_i, toIntM_i, isnM_any, isN, eqM_i, eqM_b, eqM_s, eqM_t, ixM_t, ixM_o, ixM_l, ixM_k, ixM_r, ixM_b, truM_b, truM_i, truM_n, truM_t, truM_o, lenM, sumM, sumA, tupM, listM, slM, lget, lgetR, lput, iRng1D, iRng2D, iSeq, itOf, eDnew, eDic, eDgt, dgtC, dgM, gDk, keyD, asD, neNilM, List.map_cons, List.map_nil, List.replicate_zero, List.replicate_succ, List.cons_append, List.nil_append, List.append_nil, List.getElem?_cons_succ, List.getElem?_cons_zero, List.set_cons_zero, List.set_cons_succ, List.length_cons, List.length_nil, Nat.reduceAdd, Nat.reduceSub, Nat.reduceLT, Nat.reduceLeDiff, Nat.sub_self, decide_eq_true_eq, sz0, sz1, sz2, sz3, sz4, sz5, sz6, sz7, sz8, ok_int, ok_bl, ok_non, ok_tup, ok_lst, eqb_int, eqb_bl, at0, at1, at2, at3, at4, at5, beq_iff_eq, ite_true, ite_false, Bool.false_eq_true, if_true, if_false, true_and, and_true, false_and, Bool.not_true, Bool.not_false])
    exact hC [33, 1 + x] μ (Oc.cons (by omega) (Oc.cons (by omega) Oc.nil)) (v_two (by omega)) (by simp) d
  rw [if_neg q1]
  refine fCons.go ?_
  (try simp only [fAsg, fPar, fPar2, fPar3, fIfS, fRet, fRetN, fDrop, fNil, fBreak, fCont, fAugN, fAugF, fApp, fRaise, mvL, moved, eVar, eVal, eOp2, eOp1, eTup, eLst, eNew, eIf, eAnd2, eOr2, eNot1, eFrz, asD, asB, eFld, eCall, eMake, eMeth, eSl, oNone, oSome, aNil, aCons, lNil, lCons, gNm, gNmS, gFd, gIx, gTp, gsNil, gsCons, tTru, tBool, tAnd2, tOr2, tNot1, tYesD, addM_i, addM_s, addM_t, addM_oo, addM_bo, addM_ob, addM_lo, addM_ol, addM_ll, subM_i, mulM_i, mulM_o, mulT_t, fdivM_i, modM_i, intAddM_i, cmpM_i, min2M_i, max2M_i, negM_i, absM_i, toIntM_i, isnM_any, isN, eqM_i, eqM_b, eqM_s, eqM_t, ixM_t, ixM_o, ixM_l, ixM_k, ixM_r, ixM_b, truM_b, truM_i, truM_n, truM_t, truM_o, lenM, sumM, sumA, tupM, listM, slM, lget, lgetR, lput, iRng1D, iRng2D, iSeq, itOf, eDnew, eDic, eDgt, dgtC, dgM, gDk, keyD, asD, neNilM, List.map_cons, List.map_nil, List.replicate_zero, List.replicate_succ, List.cons_append, List.nil_append, List.append_nil, List.getElem?_cons_succ, List.getElem?_cons_zero, List.set_cons_zero, List.set_cons_succ, List.length_cons, List.length_nil, Nat.reduceAdd, Nat.reduceSub, Nat.reduceLT, Nat.reduceLeDiff, Nat.sub_self, decide_eq_true_eq, sz0, sz1, sz2, sz3, sz4, sz5, sz6, sz7, sz8, ok_int, ok_bl, ok_non, ok_tup, ok_lst, eqb_int, eqb_bl, at0, at1, at2, at3, at4, at5, beq_iff_eq, ite_true, ite_false, Bool.false_eq_true, if_true, if_false, true_and, and_true, false_and, Bool.not_true, Bool.not_false])
  by_cases q2 : kind = 2
  · rw [if_pos q2]
    refine fCons.go ?_
    (try simp only [fAsg, fPar, fPar2, fPar3, fIfS, fRet, fRetN, fDrop, fNil, fBreak, fCont, fAugN, fAugF, fApp, fRaise, mvL, moved, eVar, eVal, eOp2, eOp1, eTup, eLst, eNew, eIf, eAnd2, eOr2, eNot1, eFrz, asD, asB, eFld, eCall, eMake, eMeth, eSl, oNone, oSome, aNil, aCons, lNil, lCons, gNm, gNmS, gFd, gIx, gTp, gsNil, gsCons, tTru, tBool, tAnd2, tOr2, tNot1, tYesD, addM_i, addM_s, addM_t, addM_oo, addM_bo, addM_ob, addM_lo, addM_ol, addM_ll, subM_i, mulM_i, mulM_o, mulT_t, fdivM_i, modM_i, intAddM_i, cmpM_i, min2M_i, max2M_i, negM_i, absM_i, toIntM_i, isnM_any, isN, eqM_i, eqM_b, eqM_s, eqM_t, ixM_t, ixM_o, ixM_l, ixM_k, ixM_r, ixM_b, truM_b, truM_i, truM_n, truM_t, truM_o, lenM, sumM, sumA, tupM, listM, slM, lget, lgetR, lput, iRng1D, iRng2D, iSeq, itOf, eDnew, eDic, eDgt, dgtC, dgM, gDk, keyD, asD, neNilM, List.map_cons, List.map_nil, List.replicate_zero, List.replicate_succ, List.cons_append, List.nil_append, List.append_nil, List.getElem?_cons_succ, List.getElem?_cons_zero, List.set_cons_zero, List.set_cons_succ, List.length_cons, List.length_nil, Nat.reduceAdd, Nat.reduceSub, Nat.reduceLT, Nat.reduceLeDiff, Nat.sub_self, decide_eq_true_eq, sz0, sz1, sz2, sz3, sz4, sz5, sz6, sz7, sz8, ok_int, ok_bl, ok_non, ok_tup, ok_lst, eqb_int, eqb_bl, at0, at1, at2, at3, at4, at5, beq_iff_eq, ite_true, ite_false, Bool.false_eq_true, if_true, if_false, true_and, and_true, false_and, Bool.not_true, Bool.not_false])
    refine octets_ d (by decide) (by decide) fun l μ o l1 l2 d => ?_
    unfold tupI
    (try simp only [fAsg, fPar, fPar2, fPar3, fIfS, fRet, fRetN, fDrop, fNil, fBreak, fCont, fAugN, fAugF, fApp, fRaise, mvL, moved, eVar, eVal, eOp2, eOp1, eTup, eLst, eNew, eIf, eAnd2, eOr2, eNot1, eFrz, asD, asB, eFld, eCall, eMake, eMeth, eSl, oNone, oSome, aNil, aCons, lNil, lCons, gNm, gNmS, gFd, gIx, gTp, gsNil, gsCons, tTru, tBool, tAnd2, tOr2, tNot1, tYesD, addM_i, addM_s, addM_t, addM_oo, addM_bo, addM_ob, addM_lo, addM_ol, addM_ll, subM_i, mulM_i, mulM_o, mulT_t, fdivM_i, modM_i, intAddM_i, cmpM_i, min2M_i, max2M_i, negM_i, absM_i, toIntM_i, isnM_any, isN, eqM_i, eqM_b, eqM_s, eqM_t, ixM_t, ixM_o, ixM_l, ixM_k, ixM_r, ixM_b, truM_b, truM_i, truM_n, truM_t, truM_o, lenM, sumM, sumA, tupM, listM, slM, lget, lgetR, lput, iRng1D, iRng2D, iSeq, itOf, eDnew, eDic, eDgt, dgtC, dgM, gDk, keyD, asD, neNilM, List.map_cons, List.map_nil, List.replicate_zero, List.replicate_succ, List.cons_append, List.nil_append, List.append_nil, List.getElem?_cons_succ, List.getElem?_cons_zero, List.set_cons_zero, List.set_cons_succ, List.length_cons, List.length_nil, Nat.reduceAdd, Nat.reduceSub, Nat.reduceLT, Nat.reduceLeDiff, Nat.sub_self, decide_eq_true_eq, sz0, sz1, sz2, sz3, sz4, sz5, sz6, sz7, sz8, ok_int, ok_bl, ok_non, ok_tup, ok_lst, eqb_int, eqb_bl, at0, at1, at2, at3, at4, at5, beq_iff_eq, ite_true, ite_false, Bool.false_eq_true, if_true, if_false, true_and, and_true, false_and, Bool.not_true, Bool.not_false, List.length_map])
    exact ⟨mulOk_l (by decide) (by decide), sz (by omega), hC (4 * s :: (l.length : Int) :: l) μ (Oc.cons (by omega) (Oc.cons (by omega) o)) (v_len (.inr (by omega)) rfl l1) (by simp; omega) d⟩
  rw [if_neg q2]
  (try simp only [fAsg, fPar, fPar2, fPar3, fIfS, fRet, fRetN, fDrop, fNil, fBreak, fCont, fAugN, fAugF, fApp, fRaise, mvL, moved, eVar, eVal, eOp2, eOp1, eTup, eLst, eNew, eIf, eAnd2, eOr2, eNot1, eFrz, asD, asB, eFld, eCall, eMake, eMeth, eSl, oNone, oSome, aNil, aCons, lNil, lCons, gNm, gNmS, gFd, gIx, gTp, gsNil, gsCons, tTru, tBool, tAnd2, tOr2, tNot1, tYesD, addM_i, addM_s, addM_t, addM_oo, addM_bo, addM_ob, addM_lo, addM_ol, addM_ll, subM_i, mulM_i, mulM_o, mulT_t, fdivM_i, modM_i, intAddM_i, cmpM_i, min2M_i, max2M_i, negM_i, absM_i, toIntM_i, isnM_any, isN, eqM_i, eqM_b, eqM_s, eqM_t, ixM_t, ixM_o, ixM_l, ixM_k, ixM_r, ixM_b, truM_b, truM_i, truM_n, truM_t, truM_o, lenM, sumM, sumA, tupM, listM, slM, lget, lgetR, lput, iRng1D, iRng2D, iSeq, itOf, eDnew, eDic, eDgt, dgtC, dgM, gDk, keyD, asD, neNilM, List.map_cons, List.map_nil, List.replicate_zero, List.replicate_succ, List.cons_append, List.nil_append, List.append_nil, List.getElem?_cons_succ, List.getElem?_cons_zero, List.set_cons_zero, List.set_cons_succ, List.length_cons, List.length_nil, Nat.reduceAdd, Nat.reduceSub, Nat.reduceLT, Nat.reduceLeDiff, Nat.sub_self, decide_eq_true_eq, sz0, sz1, sz2, sz3, sz4, sz5, sz6, sz7, sz8, ok_int, ok_bl, ok_non, ok_tup, ok_lst, eqb_int, eqb_bl, at0, at1, at2, at3, at4, at5, beq_iff_eq, ite_true, ite_false, Bool.false_eq_true, if_true, if_false, true_and, and_true, false_and, Bool.not_true, Bool.not_false])
  by_cases q3 : kind = 3
  · rw [if_pos q3]
    (try simp only [fAsg, fPar, fPar2, fPar3, fIfS, fRet, fRetN, fDrop, fNil, fBreak, fCont, fAugN, fAugF, fApp, fRaise, mvL, moved, eVar, eVal, eOp2, eOp1, eTup, eLst, eNew, eIf, eAnd2, eOr2, eNot1, eFrz, asD, asB, eFld, eCall, eMake, eMeth, eSl, oNone, oSome, aNil, aCons, lNil, lCons, gNm, gNmS, gFd, gIx, gTp, gsNil, gsCons, tTru, tBool, tAnd2, tOr2, tNot1, tYesD, addM_i, addM_s, addM_t, addM_oo, addM_bo, addM_ob, addM_lo, addM_ol, addM_ll, subM_i, mulM_i, mulM_o, mulT_t, fdivM_i, modM_i, intAddM_i, cmpM_i, min2M_i, max2M_i, negM_i, absM_i, toIntM_i, isnM_any, isN, eqM_i, eqM_b, eqM_s, eqM_t, ixM_t, ixM_o, ixM_l, ixM_k, ixM_r, ixM_b, truM_b, truM_i, truM_n, truM_t, truM_o, lenM, sumM, sumA, tupM, listM, slM, lget, lgetR, lput, iRng1D, iRng2D, iSeq, itOf, eDnew, eDic, eDgt, dgtC, dgM, gDk, keyD, asD, neNilM, List.map_cons, List.map_nil, List.replicate_zero, List.replicate_succ, List.cons_append, List.nil_append, List.append_nil, List.getElem?_cons_succ, List.getElem?_cons_zero, List.set_cons_zero, List.set_cons_succ, List.length_cons, List.length_nil, Nat.reduceAdd, Nat.reduceSub, Nat.reduceLT, Nat.reduceLeDiff, Nat.sub_self, decide_eq_true_eq, sz0, sz1, sz2, sz3, sz4, sz5, sz6, sz7, sz8, ok_int, ok_bl, ok_non, ok_tup, ok_lst, eqb_int, eqb_bl, at0, at1, at2, at3, at4, at5, beq_iff_eq, ite_true, ite_false, Bool.false_eq_true, if_true, if_false, true_and, and_true, false_and, Bool.not_true, Bool.not_false])
    exact ⟨mulOk_l (by decide) (by decide), hC [4 * s + 1] μ (Oc.cons (by omega) Oc.nil) (v_one (by omega) (by omega)) (by simp) d⟩
  rw [if_neg q3]
  (try simp only [fAsg, fPar, fPar2, fPar3, fIfS, fRet, fRetN, fDrop, fNil, fBreak, fCont, fAugN, fAugF, fApp, fRaise, mvL, moved, eVar, eVal, eOp2, eOp1, eTup, eLst, eNew, eIf, eAnd2, eOr2, eNot1, eFrz, asD, asB, eFld, eCall, eMake, eMeth, eSl, oNone, oSome, aNil, aCons, lNil, lCons, gNm, gNmS, gFd, gIx, gTp, gsNil, gsCons, tTru, tBool, tAnd2, tOr2, tNot1, tYesD, addM_i, addM_s, addM_t, addM_oo, addM_bo, addM_ob, addM_lo, addM_ol, addM_ll, subM_i, mulM_i, mulM_o, mulT_t, fdivM_i, modM_i, intAddM_i, cmpM_i, min2M_i, max2M_i, negM_i, absM_i, toIntM_i, isnM_any, isN, eqM_i, eqM_b, eqM_s, eqM_t, ixM_t, ixM_o, ixM_l, ixM_k, ixM_r, ixM_b, truM_b, truM_i, truM_n, truM_t, truM_o, lenM, sumM, sumA, tupM, listM, slM, lget, lgetR, lput, iRng1D, iRng2D, iSeq, itOf, eDnew, eDic, eDgt, dgtC, dgM, gDk, keyD, asD, neNilM, List.map_cons, List.map_nil, List.replicate_zero, List.replicate_succ, List.cons_append, List.nil_append, List.append_nil, List.getElem?_cons_succ, List.getElem?_cons_zero, List.set_cons_zero, List.set_cons_succ, List.length_cons, List.length_nil, Nat.reduceAdd, Nat.reduceSub, Nat.reduceLT, Nat.reduceLeDiff, Nat.sub_self, decide_eq_true_eq, sz0, sz1, sz2, sz3, sz4, sz5, sz6, sz7, sz8, ok_int, ok_bl, ok_non, ok_tup, ok_lst, eqb_int, eqb_bl, at0, at1, at2, at3, at4, at5, beq_iff_eq, ite_true, ite_false, Bool.false_eq_true, if_true, if_false, true_and, and_true, false_and, Bool.not_true, Bool.not_false])
  by_cases q4 : kind = 4
  · rw [if_pos q4]
    (try simp only [fAsg, fPar, fPar2, fPar3, fIfS, fRet, fRetN, fDrop, fNil, fBreak, fCont, fAugN, fAugF, fApp, fRaise, mvL, moved, eVar, eVal, eOp2, eOp1, eTup, eLst, eNew, eIf, eAnd2, eOr2, eNot1, eFrz, asD, asB, eFld, eCall, eMake, eMeth, eSl, oNone, oSome, aNil, aCons, lNil, lCons, gNm, gNmS, gFd, gIx, gTp, gsNil, gsCons, tTru, tBool, tAnd2, tOr2, tNot1, tYesD, addM_i, addM_s, addM_t, addM_oo, addM_bo, addM_ob, addM_lo, addM_ol, addM_ll, subM_i, mulM_i, mulM_o, mulT_t, fdivM_i, modM_i, intAddM_i, cmpM_i, min2M_i, max2M_i, negM_i, absM_i, toIntM_i, isnM_any, isN, eqM_i, eqM_b, eqM_s, eqM_t, ixM_t, ixM_o, ixM_l, ixM_k, ixM_r, ixM_b, truM_b, truM_i, truM_n, truM_t, truM_o, lenM, sumM, sumA, tupM, listM, slM, lget, lgetR, lput, iRng1D, iRng2D, iSeq, itOf, eDnew, eDic, eDgt, dgtC, dgM, gDk, keyD, asD, neNilM, List.map_cons, List.map_nil, List.replicate_zero, List.replicate_succ, List.cons_append, List.nil_append, List.append_nil, List.getElem?_cons_succ, List.getElem?_cons_zero, List.set_cons_zero, List.set_cons_succ, List.length_cons, List.length_nil, Nat.reduceAdd, Nat.reduceSub, Nat.reduceLT, Nat.reduceLeDiff, Nat.sub_self, decide_eq_true_eq, sz0, sz1, sz2, sz3, sz4, sz5, sz6, sz7, sz8, ok_int, ok_bl, ok_non, ok_tup, ok_lst, eqb_int, eqb_bl, at0, at1, at2, at3, at4, at5, beq_iff_eq, ite_true, ite_false, Bool.false_eq_true, if_true, if_false, true_and, and_true, false_and, Bool.not_true, Bool.not_false])
    exact ⟨mulOk_l (by decide) (by decide), hC [4 * s + 2] μ (Oc.cons (by omega) Oc.nil) (v_one (by omega) (by omega)) (by simp) d⟩
  rw [if_neg q4]
  (try simp only [fAsg, fPar, fPar2, fPar3, fIfS, fRet, fRetN, fDrop, fNil, fBreak, fCont, fAugN, fAugF, fApp, fRaise, mvL, moved, eVar, eVal, eOp2, eOp1, eTup, eLst, eNew, eIf, eAnd2, eOr2, eNot1, eFrz, asD, asB, eFld, eCall, eMake, eMeth, eSl, oNone, oSome, aNil, aCons, lNil, lCons, gNm, gNmS, gFd, gIx, gTp, gsNil, gsCons, tTru, tBool, tAnd2, tOr2, tNot1, tYesD, addM_i, addM_s, addM_t, addM_oo, addM_bo, addM_ob, addM_lo, addM_ol, addM_ll, subM_i, mulM_i, mulM_o, mulT_t, fdivM_i, modM_i, intAddM_i, cmpM_i, min2M_i, max2M_i, negM_i, absM_i, toIntM_i, isnM_any, isN, eqM_i, eqM_b, eqM_s, eqM_t, ixM_t, ixM_o, ixM_l, ixM_k, ixM_r, ixM_b, truM_b, truM_i, truM_n, truM_t, truM_o, lenM, sumM, sumA, tupM, listM, slM, lget, lgetR, lput, iRng1D, iRng2D, iSeq, itOf, eDnew, eDic, eDgt, dgtC, dgM, gDk, keyD, asD, neNilM, List.map_cons, List.map_nil, List.replicate_zero, List.replicate_succ, List.cons_append, List.nil_append, List.append_nil, List.getElem?_cons_succ, List.getElem?_cons_zero, List.set_cons_zero, List.set_cons_succ, List.length_cons, List.length_nil, Nat.reduceAdd, Nat.reduceSub, Nat.reduceLT, Nat.reduceLeDiff, Nat.sub_self, decide_eq_true_eq, sz0, sz1, sz2, sz3, sz4, sz5, sz6, sz7, sz8, ok_int, ok_bl, ok_non, ok_tup, ok_lst, eqb_int, eqb_bl, at0, at1, at2, at3, at4, at5, beq_iff_eq, ite_true, ite_false, Bool.false_eq_true, if_true, if_false, true_and, and_true, false_and, Bool.not_true, Bool.not_false])
  refine ⟨mulOk_l (by decide) (by decide), ?_⟩
  refine take__ d (by decide) (by decide) fun x μ x0 x1 d _ => ?_
  (try simp only [fAsg, fPar, fPar2, fPar3, fIfS, fRet, fRetN, fDrop, fNil, fBreak, fCont, fAugN, fAugF, fApp, fRaise, mvL, moved, eVar, eVal, eOp2, eOp1, eTup, eLst, eNew, eIf, eAnd2, eOr2, eNot1, eFrz, asD, asB, eFld, eCall, eMake, eMeth, eSl, oNone, oSome, aNil, aCons, lNil, lCons, gNm, gNmS, gFd, gIx, gTp, gsNil, gsCons, tTru, tBool, tAnd2, tOr2, tNot1, tYesD, addM_i, addM_s, addM_t, addM_oo, addM_bo, addM_ob, addM_lo, addM_ol, addM_ll, subM_i, mulM_i, mulM_o, mulT_t, fdivM_i, modM_i, intAddM_i, cmpM_i, min2M_i, max2M_i, negM_i, absM_i, toIntM_i, isnM_any, isN, eqM_i, eqM_b, eqM_s, eqM_t, ixM_t, ixM_o, ixM_l, ixM_k, ixM_r, ixM_b, truM_b, truM_i, truM_n, truM_t, truM_o, lenM, sumM, sumA, tupM, listM, slM, lget, lgetR, lput, iRng1D, iRng2D, iSeq, itOf, eDnew, eDic, eDgt, dgtC, dgM, gDk, keyD, asD, neNilM, List.map_cons, List.map_nil, List.replicate_zero, List.replicate_succ, List.cons_append, List.nil_append, List.append_nil, List.getElem?_cons_succ, List.getElem?_cons_zero, List.set_cons_zero, List.set_cons_succ, List.length_cons, List.length_nil, Nat.reduceAdd, Nat.reduceSub, Nat.reduceLT, Nat.reduceLeDiff, Nat.sub_self, decide_eq_true_eq, sz0, sz1, sz2, sz3, sz4, sz5, sz6, sz7, sz8, ok_int, ok_bl, ok_non, ok_tup, ok_lst, eqb_int, eqb_bl, at0, at1, at2, at3, at4, at5, beq_iff_eq, ite_true, ite_false, Bool.false_eq_true, if_true, if_false, true_and, and_true, false_and, Bool.not_true, Bool.not_false])
  refine take__ d (by decide) (by decide) fun y μ y0 y1 d _ => ?_
  (try simp only [fAsg, fPar, fPar2, fPar3, fIfS, fRet, fRetN, fDrop, fNil, fBreak, fCont, fAugN, fAugF, fApp, fRaise, mvL, moved, eVar, eVal, eOp2, eOp1, eTup, eLst, eNew, eIf, eAnd2, eOr2, eNot1, eFrz, asD, asB, eFld, eCall, eMake, eMeth, eSl, oNone, oSome, aNil, aCons, lNil, lCons, gNm, gNmS, gFd, gIx, gTp, gsNil, gsCons, tTru, tBool, tAnd2, tOr2, tNot1, tYesD, addM_i, addM_s, addM_t, addM_oo, addM_bo, addM_ob, addM_lo, addM_ol, addM_ll, subM_i, mulM_i, mulM_o, mulT_t, fdivM_i, modM_i, intAddM_i, cmpM_i, min2M_i, max2M_i, negM_i, absM_i, toIntM_i, isnM_any, isN, eqM_i, eqM_b, eqM_s, eqM_t, ixM_t, ixM_o, ixM_l, ixM_k, ixM_r, ixM_b, truM_b, truM_i, truM_n, truM_t, truM_o, lenM, sumM, sumA, tupM, listM, slM, lget, lgetR, lput, iRng1D, iRng2D, iSeq, itOf, eDnew, eDic, eDgt, dgtC, dgM, gDk, keyD, asD, neNilM, List.map_cons, List.map_nil, List.replicate_zero, List.replicate_succ, List.cons_append, List.nil_append, List.append_nil, List.getElem?_cons_succ, List.getElem?_cons_zero, List.set_cons_zero, List.set_cons_succ, List.length_cons, List.length_nil, Nat.reduceAdd, Nat.reduceSub, Nat.reduceLT, Nat.reduceLeDiff, Nat.sub_self, decide_eq_true_eq, sz0, sz1, sz2, sz3, sz4, sz5, sz6, sz7, sz8, ok_int, ok_bl, ok_non, ok_tup, ok_lst, eqb_int, eqb_bl, at0, at1, at2, at3, at4, at5, beq_iff_eq, ite_true, ite_false, Bool.false_eq_true, if_true, if_false, true_and, and_true, false_and, Bool.not_true, Bool.not_false])
  exact hC [4 * s + 3, x, y] μ (Oc.cons (by omega) (Oc.cons (by omega) (Oc.cons (by omega) Oc.nil))) (v_three (by omega) (by omega)) (by simp) d
end
end K70

namespace K70
open PySem PySem.Spec PyProof.Rows L2 NT
def Sl14 (zs : List Int) (z2 z3 z4 z5 z6 z7 z8 z9 z10 z11 z12 z13 : Option P) : Sl := [some (.val (.kls (zs.map D.int))), some (.val (.ref 0)), z2, z3, z4, z5, z6, z7, z8, z9, z10, z11, z12, z13]
def sv (l : List Int) : Option P := some (.val (tupI l))
theorem take_flat {f : List (List Int)} {i : Nat} {l : List Int} (h : f[i]? = some l) : (f.take (i + 1)).flatten = (f.take i).flatten ++ l := by
  rw [List.take_succ, h, List.flatten_append]
  simp
theorem flat_le (f : List (List Int)) (i : Nat) : (f.take i).flatten.length ≤ f.flatten.length := by
  have h : f.flatten = (f.take i).flatten ++ (f.drop i).flatten := by rw [← List.flatten_append, List.take_append_drop]
  have := congrArg List.length h
  rw [List.length_append] at this
  omega
section
variable {K : PySem.W.Frag} {mg : Str → Option Value} {a : Ad} {μ : Mu} {C : P → Mu → Prop} {E : CX} {D' : FD} {zs : List Int}
variable {z2 z3 z4 z5 z6 z7 z8 z9 z10 z11 z12 z13 : Option P}
theorem whole_ {f : List (List Int)} (hl : f.flatten.length ≤ 900) (hN : ∀ z6, D'.nx (Sl14 zs z2 z3 (some (.val (.tup (f.map tupI)))) (sv f.flatten) z6 z7 z8 z9 z10 z11 z12 z13) μ) : L_law_1 K a D' (Sl14 zs z2 z3 (some (.val (.tup (f.map tupI)))) (sv []) z6 z7 z8 z9 z10 z11 z12 z13) μ := by
  unfold L_law_1
  rw [fFor_eq]
  (try simp only [fAsg, fPar, fPar2, fPar3, fIfS, fRet, fRetN, fDrop, fNil, fBreak, fCont, fAugN, fAugF, fApp, fRaise, mvL, moved, eVar, eVal, eOp2, eOp1, eTup, eLst, eNew, eIf, eAnd2, eOr2, eNot1, eFrz, asD, asB, eFld, eCall, eMake, eMeth, eSl, oNone, oSome, aNil, aCons, lNil, lCons, gNm, gNmS, gFd, gIx, gTp, gsNil, gsCons, tTru, tBool, tAnd2, tOr2, tNot1, tYesD, addM_i, addM_s, addM_t, addM_oo, addM_bo, addM_ob, addM_lo, addM_ol, addM_ll, subM_i, mulM_i, mulM_o, mulT_t, fdivM_i, modM_i, intAddM_i, cmpM_i, min2M_i, max2M_i, negM_i, absM_i, toIntM_i, isnM_any, isN, eqM_i, eqM_b, eqM_s, eqM_t, ixM_t, ixM_o, ixM_l, ixM_k, ixM_r, ixM_b, truM_b, truM_i, truM_n, truM_t, truM_o, lenM, sumM, sumA, tupM, listM, slM, lget, lgetR, lput, iRng1D, iRng2D, iSeq, itOf, eDnew, eDic, eDgt, dgtC, dgM, gDk, keyD, asD, neNilM, List.map_cons, List.map_nil, List.replicate_zero, List.replicate_succ, List.cons_append, List.nil_append, List.append_nil, List.getElem?_cons_succ, List.getElem?_cons_zero, List.set_cons_zero, List.set_cons_succ, List.length_cons, List.length_nil, Nat.reduceAdd, Nat.reduceSub, Nat.reduceLT, Nat.reduceLeDiff, Nat.sub_self, decide_eq_true_eq, sz0, sz1, sz2, sz3, sz4, sz5, sz6, sz7, sz8, ok_int, ok_bl, ok_non, ok_tup, ok_lst, eqb_int, eqb_bl, at0, at1, at2, at3, at4, at5, beq_iff_eq, ite_true, ite_false, Bool.false_eq_true, if_true, if_false, true_and, and_true, false_and, Bool.not_true, Bool.not_false, Sl14])
  refine loop_fix (fun i δ μ' => μ' = μ ∧ ∃ z6, δ = Sl14 zs z2 z3 (some (.val (.tup (f.map tupI)))) (sv (f.take i).flatten) z6 z7 z8 z9 z10 z11 z12 z13) ⟨rfl, z6, rfl⟩ ?_ ?_
  · rintro i δ μ' d hd ⟨rfl, z6, rfl⟩
    rw [List.getElem?_map] at hd
    cases q : f[i]? with
    | none => rw [q] at hd; cases hd
    | some l =>
      rw [q] at hd
      cases hd
      have h1 := flat_le f (i + 1)
      have h2 := take_flat q
      (try simp only [fAsg, fPar, fPar2, fPar3, fIfS, fRet, fRetN, fDrop, fNil, fBreak, fCont, fAugN, fAugF, fApp, fRaise, mvL, moved, eVar, eVal, eOp2, eOp1, eTup, eLst, eNew, eIf, eAnd2, eOr2, eNot1, eFrz, asD, asB, eFld, eCall, eMake, eMeth, eSl, oNone, oSome, aNil, aCons, lNil, lCons, gNm, gNmS, gFd, gIx, gTp, gsNil, gsCons, tTru, tBool, tAnd2, tOr2, tNot1, tYesD, addM_i, addM_s, addM_t, addM_oo, addM_bo, addM_ob, addM_lo, addM_ol, addM_ll, subM_i, mulM_i, mulM_o, mulT_t, fdivM_i, modM_i, intAddM_i, cmpM_i, min2M_i, max2M_i, negM_i, absM_i, toIntM_i, isnM_any, isN, eqM_i, eqM_b, eqM_s, eqM_t, ixM_t, ixM_o, ixM_l, ixM_k, ixM_r, ixM_b, truM_b, truM_i, truM_n, truM_t, truM_o, lenM, sumM, sumA, tupM, listM, slM, lget, lgetR, lput, iRng1D, iRng2D, iSeq, itOf, eDnew, eDic, eDgt, dgtC, dgM, gDk, keyD, asD, neNilM, List.map_cons, List.map_nil, List.replicate_zero, List.replicate_succ, List.cons_append, List.nil_append, List.append_nil, List.getElem?_cons_succ, List.getElem?_cons_zero, List.set_cons_zero, List.set_cons_succ, List.length_cons, List.length_nil, Nat.reduceAdd, Nat.reduceSub, Nat.reduceLT, Nat.reduceLeDiff, Nat.sub_self, decide_eq_true_eq, sz0, sz1, sz2, sz3, sz4, sz5, sz6, sz7, sz8, ok_int, ok_bl, ok_non, ok_tup, ok_lst, eqb_int, eqb_bl, at0, at1, at2, at3, at4, at5, beq_iff_eq, ite_true, ite_false, Bool.false_eq_true, if_true, if_false, true_and, and_true, false_and, Bool.not_true, Bool.not_false, Sl14, sv, tupI])
      rw [h2] at h1
      rw [List.length_append] at h1
      refine ⟨sz (by simp only [List.length_map]; omega), ?_⟩
      refine ⟨sv l, ?_⟩
      rw [h2]
      simp only [Sl14, sv, tupI, List.map_append]
  · rintro δ μ' ⟨rfl, z6, rfl⟩
    rw [List.length_map, List.take_length]
    exact hN z6
theorem back_ {f : List (List Int)} {r : List Int} (hl : (f.flatten ++ r).length ≤ 900) (hf : f.length ≤ 900) (hN : ∀ z6, D'.nx (Sl14 zs z2 z3 z4 z5 z6 z7 z8 z9 z10 (some (.val (resD f r))) z12 (sv (f.flatten ++ r))) μ) : L_law_2 K a D' (Sl14 zs z2 z3 z4 z5 z6 z7 z8 z9 z10 (some (.val (resD f r))) z12 (sv [])) μ := by
  unfold L_law_2
  rw [fFor_eq]
  (try simp only [fAsg, fPar, fPar2, fPar3, fIfS, fRet, fRetN, fDrop, fNil, fBreak, fCont, fAugN, fAugF, fApp, fRaise, mvL, moved, eVar, eVal, eOp2, eOp1, eTup, eLst, eNew, eIf, eAnd2, eOr2, eNot1, eFrz, asD, asB, eFld, eCall, eMake, eMeth, eSl, oNone, oSome, aNil, aCons, lNil, lCons, gNm, gNmS, gFd, gIx, gTp, gsNil, gsCons, tTru, tBool, tAnd2, tOr2, tNot1, tYesD, addM_i, addM_s, addM_t, addM_oo, addM_bo, addM_ob, addM_lo, addM_ol, addM_ll, subM_i, mulM_i, mulM_o, mulT_t, fdivM_i, modM_i, intAddM_i, cmpM_i, min2M_i, max2M_i, negM_i, absM_i, toIntM_i, isnM_any, isN, eqM_i, eqM_b, eqM_s, eqM_t, ixM_t, ixM_o, ixM_l, ixM_k, ixM_r, ixM_b, truM_b, truM_i, truM_n, truM_t, truM_o, lenM, sumM, sumA, tupM, listM, slM, lget, lgetR, lput, iRng1D, iRng2D, iSeq, itOf, eDnew, eDic, eDgt, dgtC, dgM, gDk, keyD, asD, neNilM, List.map_cons, List.map_nil, List.replicate_zero, List.replicate_succ, List.cons_append, List.nil_append, List.append_nil, List.getElem?_cons_succ, List.getElem?_cons_zero, List.set_cons_zero, List.set_cons_succ, List.length_cons, List.length_nil, Nat.reduceAdd, Nat.reduceSub, Nat.reduceLT, Nat.reduceLeDiff, Nat.sub_self, decide_eq_true_eq, sz0, sz1, sz2, sz3, sz4, sz5, sz6, sz7, sz8, ok_int, ok_bl, ok_non, ok_tup, ok_lst, eqb_int, eqb_bl, at0, at1, at2, at3, at4, at5, beq_iff_eq, ite_true, ite_false, Bool.false_eq_true, if_true, if_false, true_and, and_true, false_and, Bool.not_true, Bool.not_false, Sl14, resD])
  refine ⟨sz (by simp only [List.length_map]; omega), ?_⟩
  have em : f.map tupI ++ [tupI r] = (f ++ [r]).map tupI := by rw [List.map_append]; rfl
  rw [em]
  have eF : (f ++ [r]).flatten = f.flatten ++ r := by rw [List.flatten_append]; simp
  rw [← eF] at hN hl
  generalize hg : f ++ [r] = g at *
  refine loop_fix (fun i δ μ' => μ' = μ ∧ ∃ z6, δ = Sl14 zs z2 z3 z4 z5 z6 z7 z8 z9 z10 (some (.val (resD f r))) z12 (sv (g.take i).flatten)) ⟨rfl, z6, rfl⟩ ?_ ?_
  · rintro i δ μ' d hd ⟨rfl, z6, rfl⟩
    rw [List.getElem?_map] at hd
    cases q : g[i]? with
    | none => rw [q] at hd; cases hd
    | some l =>
      rw [q] at hd
      cases hd
      have h1 := flat_le g (i + 1)
      have h2 := take_flat q
      (try simp only [fAsg, fPar, fPar2, fPar3, fIfS, fRet, fRetN, fDrop, fNil, fBreak, fCont, fAugN, fAugF, fApp, fRaise, mvL, moved, eVar, eVal, eOp2, eOp1, eTup, eLst, eNew, eIf, eAnd2, eOr2, eNot1, eFrz, asD, asB, eFld, eCall, eMake, eMeth, eSl, oNone, oSome, aNil, aCons, lNil, lCons, gNm, gNmS, gFd, gIx, gTp, gsNil, gsCons, tTru, tBool, tAnd2, tOr2, tNot1, tYesD, addM_i, addM_s, addM_t, addM_oo, addM_bo, addM_ob, addM_lo, addM_ol, addM_ll, subM_i, mulM_i, mulM_o, mulT_t, fdivM_i, modM_i, intAddM_i, cmpM_i, min2M_i, max2M_i, negM_i, absM_i, toIntM_i, isnM_any, isN, eqM_i, eqM_b, eqM_s, eqM_t, ixM_t, ixM_o, ixM_l, ixM_k, ixM_r, ixM_b, truM_b, truM_i, truM_n, truM_t, truM_o, lenM, sumM, sumA, tupM, listM, slM, lget, lgetR, lput, iRng1D, iRng2D, iSeq, itOf, eDnew, eDic, eDgt, dgtC, dgM, gDk, keyD, asD, neNilM, List.map_cons, List.map_nil, List.replicate_zero, List.replicate_succ, List.cons_append, List.nil_append, List.append_nil, List.getElem?_cons_succ, List.getElem?_cons_zero, List.set_cons_zero, List.set_cons_succ, List.length_cons, List.length_nil, Nat.reduceAdd, Nat.reduceSub, Nat.reduceLT, Nat.reduceLeDiff, Nat.sub_self, decide_eq_true_eq, sz0, sz1, sz2, sz3, sz4, sz5, sz6, sz7, sz8, ok_int, ok_bl, ok_non, ok_tup, ok_lst, eqb_int, eqb_bl, at0, at1, at2, at3, at4, at5, beq_iff_eq, ite_true, ite_false, Bool.false_eq_true, if_true, if_false, true_and, and_true, false_and, Bool.not_true, Bool.not_false, Sl14, sv, tupI])
      rw [h2] at h1
      rw [List.length_append] at h1
      refine ⟨sz (by simp only [List.length_map]; omega), ?_⟩
      refine ⟨sv l, ?_⟩
      rw [h2]
      simp only [Sl14, sv, tupI, List.map_append]
  · rintro δ μ' ⟨rfl, z6, rfl⟩
    rw [List.length_map, List.take_length]
    exact hN z6
def Own (l : List Int) : Prop := Oc l ∧ l.length ≤ 400
theorem owns_ (T : Tx K mg a) {w sp : List Int} {at_ : Nat} (h1 : Oc w) (h2 : w.length ≤ 300) (h3 : Oc sp) (h4 : sp.length ≤ 300) (hN : ∀ z6 z10 z11 z12 z13, D'.nx (Sl14 zs z2 z3 z4 (sv w) z6 z7 (iv at_) (sv sp) z10 z11 z12 z13) μ) : L_law_3 K a D' (Sl14 zs z2 z3 z4 (sv w) z6 z7 (iv at_) (sv sp) z10 z11 z12 z13) μ := by
  unfold L_law_3
  rw [fFor_eq]
  have s1 : cutL (w.map D.int) none (some (at_ : Int)) = (w.take at_).map D.int := by rw [List.map_take]; exact cut_pre (k := at_) rfl
  have s2 : cutL (sp.map D.int) none (some ((at_ : Int) + 3)) = (sp.take (at_ + 3)).map D.int := by rw [List.map_take]; exact cut_pre (k := at_ + 3) (by omega)
  (try simp only [fAsg, fPar, fPar2, fPar3, fIfS, fRet, fRetN, fDrop, fNil, fBreak, fCont, fAugN, fAugF, fApp, fRaise, mvL, moved, eVar, eVal, eOp2, eOp1, eTup, eLst, eNew, eIf, eAnd2, eOr2, eNot1, eFrz, asD, asB, eFld, eCall, eMake, eMeth, eSl, oNone, oSome, aNil, aCons, lNil, lCons, gNm, gNmS, gFd, gIx, gTp, gsNil, gsCons, tTru, tBool, tAnd2, tOr2, tNot1, tYesD, addM_i, addM_s, addM_t, addM_oo, addM_bo, addM_ob, addM_lo, addM_ol, addM_ll, subM_i, mulM_i, mulM_o, mulT_t, fdivM_i, modM_i, intAddM_i, cmpM_i, min2M_i, max2M_i, negM_i, absM_i, toIntM_i, isnM_any, isN, eqM_i, eqM_b, eqM_s, eqM_t, ixM_t, ixM_o, ixM_l, ixM_k, ixM_r, ixM_b, truM_b, truM_i, truM_n, truM_t, truM_o, lenM, sumM, sumA, tupM, listM, slM, lget, lgetR, lput, iRng1D, iRng2D, iSeq, itOf, eDnew, eDic, eDgt, dgtC, dgM, gDk, keyD, asD, neNilM, List.map_cons, List.map_nil, List.replicate_zero, List.replicate_succ, List.cons_append, List.nil_append, List.append_nil, List.getElem?_cons_succ, List.getElem?_cons_zero, List.set_cons_zero, List.set_cons_succ, List.length_cons, List.length_nil, Nat.reduceAdd, Nat.reduceSub, Nat.reduceLT, Nat.reduceLeDiff, Nat.sub_self, decide_eq_true_eq, sz0, sz1, sz2, sz3, sz4, sz5, sz6, sz7, sz8, ok_int, ok_bl, ok_non, ok_tup, ok_lst, eqb_int, eqb_bl, at0, at1, at2, at3, at4, at5, beq_iff_eq, ite_true, ite_false, Bool.false_eq_true, if_true, if_false, true_and, and_true, false_and, Bool.not_true, Bool.not_false, Sl14, sv, tupI, iv, s1, s2, List.length_map])
  refine ⟨sz (by omega), sz (by omega), sz (by omega), sz (by omega), ?_⟩
  have a1 : w.map D.int ++ [D.int 32] = (w ++ [32]).map D.int := by simp
  have a2 : w.map D.int ++ [D.int 33] = (w ++ [33]).map D.int := by simp
  have a3 : w.map D.int ++ [D.int 33, D.int 0] = (w ++ [33, 0]).map D.int := by simp
  have a4 : w.map D.int ++ [D.int 32, D.int 0] = (w ++ [32, 0]).map D.int := by simp
  rw [a1, a2, a3, a4]
  have o2 : Oc ([33, 0] : List Int) := Oc.cons (by omega) (Oc.cons (by omega) Oc.nil)
  have o3 : Oc ([32, 0] : List Int) := Oc.cons (by omega) (Oc.cons (by omega) Oc.nil)
  obtain ⟨L, hL, hO⟩ : ∃ L : List (List Int), L = [w.take at_, sp, w ++ [32], w ++ [33], w ++ [33, 0], w ++ [32, 0], sp.take (at_ + 3)] ∧ ∀ l ∈ L, Own l := by
    refine ⟨_, rfl, fun l hl => ?_⟩
    simp only [List.mem_cons, List.not_mem_nil, or_false] at hl
    rcases hl with rfl | rfl | rfl | rfl | rfl | rfl | rfl
    · exact ⟨h1.take _, by rw [List.length_take]; omega⟩
    · exact ⟨h3, by omega⟩
    · exact ⟨h1.app (Oc.cons (by omega) Oc.nil), by simp; omega⟩
    · exact ⟨h1.app (Oc.cons (by omega) Oc.nil), by simp; omega⟩
    · exact ⟨h1.app o2, by simp; omega⟩
    · exact ⟨h1.app o3, by simp; omega⟩
    · exact ⟨h3.take _, by rw [List.length_take]; omega⟩
  have eL : [D.tup ((w.take at_).map D.int), D.tup (sp.map D.int), D.tup ((w ++ [32]).map D.int), D.tup ((w ++ [33]).map D.int), D.tup ((w ++ [33, 0]).map D.int), D.tup ((w ++ [32, 0]).map D.int), D.tup ((sp.take (at_ + 3)).map D.int)] = L.map tupI := by rw [hL]; rfl
  rw [eL]
  clear eL hL a1 a2 a3 a4 s1 s2
  refine loop_fix (fun _ δ μ' => μ' = μ ∧ ∃ z6 z10 z11 z12 z13, δ = Sl14 zs z2 z3 z4 (sv w) z6 z7 (iv at_) (sv sp) z10 z11 z12 z13) ⟨rfl, z6, z10, z11, z12, z13, rfl⟩ ?_ ?_
  · rintro i δ μ' d hd ⟨rfl, z6, z10, z11, z12, z13, rfl⟩
    rw [List.getElem?_map] at hd
    cases q : L[i]? with
    | none => rw [q] at hd; cases hd
    | some c =>
      rw [q] at hd
      cases hd
      obtain ⟨o, hl⟩ := hO c (List.mem_of_getElem? q)
      (try simp only [fAsg, fPar, fPar2, fPar3, fIfS, fRet, fRetN, fDrop, fNil, fBreak, fCont, fAugN, fAugF, fApp, fRaise, mvL, moved, eVar, eVal, eOp2, eOp1, eTup, eLst, eNew, eIf, eAnd2, eOr2, eNot1, eFrz, asD, asB, eFld, eCall, eMake, eMeth, eSl, oNone, oSome, aNil, aCons, lNil, lCons, gNm, gNmS, gFd, gIx, gTp, gsNil, gsCons, tTru, tBool, tAnd2, tOr2, tNot1, tYesD, addM_i, addM_s, addM_t, addM_oo, addM_bo, addM_ob, addM_lo, addM_ol, addM_ll, subM_i, mulM_i, mulM_o, mulT_t, fdivM_i, modM_i, intAddM_i, cmpM_i, min2M_i, max2M_i, negM_i, absM_i, toIntM_i, isnM_any, isN, eqM_i, eqM_b, eqM_s, eqM_t, ixM_t, ixM_o, ixM_l, ixM_k, ixM_r, ixM_b, truM_b, truM_i, truM_n, truM_t, truM_o, lenM, sumM, sumA, tupM, listM, slM, lget, lgetR, lput, iRng1D, iRng2D, iSeq, itOf, eDnew, eDic, eDgt, dgtC, dgM, gDk, keyD, asD, neNilM, List.map_cons, List.map_nil, List.replicate_zero, List.replicate_succ, List.cons_append, List.nil_append, List.append_nil, List.getElem?_cons_succ, List.getElem?_cons_zero, List.set_cons_zero, List.set_cons_succ, List.length_cons, List.length_nil, Nat.reduceAdd, Nat.reduceSub, Nat.reduceLT, Nat.reduceLeDiff, Nat.sub_self, decide_eq_true_eq, sz0, sz1, sz2, sz3, sz4, sz5, sz6, sz7, sz8, ok_int, ok_bl, ok_non, ok_tup, ok_lst, eqb_int, eqb_bl, at0, at1, at2, at3, at4, at5, beq_iff_eq, ite_true, ite_false, Bool.false_eq_true, if_true, if_false, true_and, and_true, false_and, Bool.not_true, Bool.not_false, Sl14])
      refine fCons.go ?_
      (try simp only [fAsg, fPar, fPar2, fPar3, fIfS, fRet, fRetN, fDrop, fNil, fBreak, fCont, fAugN, fAugF, fApp, fRaise, mvL, moved, eVar, eVal, eOp2, eOp1, eTup, eLst, eNew, eIf, eAnd2, eOr2, eNot1, eFrz, asD, asB, eFld, eCall, eMake, eMeth, eSl, oNone, oSome, aNil, aCons, lNil, lCons, gNm, gNmS, gFd, gIx, gTp, gsNil, gsCons, tTru, tBool, tAnd2, tOr2, tNot1, tYesD, addM_i, addM_s, addM_t, addM_oo, addM_bo, addM_ob, addM_lo, addM_ol, addM_ll, subM_i, mulM_i, mulM_o, mulT_t, fdivM_i, modM_i, intAddM_i, cmpM_i, min2M_i, max2M_i, negM_i, absM_i, toIntM_i, isnM_any, isN, eqM_i, eqM_b, eqM_s, eqM_t, ixM_t, ixM_o, ixM_l, ixM_k, ixM_r, ixM_b, truM_b, truM_i, truM_n, truM_t, truM_o, lenM, sumM, sumA, tupM, listM, slM, lget, lgetR, lput, iRng1D, iRng2D, iSeq, itOf, eDnew, eDic, eDgt, dgtC, dgM, gDk, keyD, asD, neNilM, List.map_cons, List.map_nil, List.replicate_zero, List.replicate_succ, List.cons_append, List.nil_append, List.append_nil, List.getElem?_cons_succ, List.getElem?_cons_zero, List.set_cons_zero, List.set_cons_succ, List.length_cons, List.length_nil, Nat.reduceAdd, Nat.reduceSub, Nat.reduceLT, Nat.reduceLeDiff, Nat.sub_self, decide_eq_true_eq, sz0, sz1, sz2, sz3, sz4, sz5, sz6, sz7, sz8, ok_int, ok_bl, ok_non, ok_tup, ok_lst, eqb_int, eqb_bl, at0, at1, at2, at3, at4, at5, beq_iff_eq, ite_true, ite_false, Bool.false_eq_true, if_true, if_false, true_and, and_true, false_and, Bool.not_true, Bool.not_false])
      refine told_ T o (by omega) ?_
      (try simp only [fAsg, fPar, fPar2, fPar3, fIfS, fRet, fRetN, fDrop, fNil, fBreak, fCont, fAugN, fAugF, fApp, fRaise, mvL, moved, eVar, eVal, eOp2, eOp1, eTup, eLst, eNew, eIf, eAnd2, eOr2, eNot1, eFrz, asD, asB, eFld, eCall, eMake, eMeth, eSl, oNone, oSome, aNil, aCons, lNil, lCons, gNm, gNmS, gFd, gIx, gTp, gsNil, gsCons, tTru, tBool, tAnd2, tOr2, tNot1, tYesD, addM_i, addM_s, addM_t, addM_oo, addM_bo, addM_ob, addM_lo, addM_ol, addM_ll, subM_i, mulM_i, mulM_o, mulT_t, fdivM_i, modM_i, intAddM_i, cmpM_i, min2M_i, max2M_i, negM_i, absM_i, toIntM_i, isnM_any, isN, eqM_i, eqM_b, eqM_s, eqM_t, ixM_t, ixM_o, ixM_l, ixM_k, ixM_r, ixM_b, truM_b, truM_i, truM_n, truM_t, truM_o, lenM, sumM, sumA, tupM, listM, slM, lget, lgetR, lput, iRng1D, iRng2D, iSeq, itOf, eDnew, eDic, eDgt, dgtC, dgM, gDk, keyD, asD, neNilM, List.map_cons, List.map_nil, List.replicate_zero, List.replicate_succ, List.cons_append, List.nil_append, List.append_nil, List.getElem?_cons_succ, List.getElem?_cons_zero, List.set_cons_zero, List.set_cons_succ, List.length_cons, List.length_nil, Nat.reduceAdd, Nat.reduceSub, Nat.reduceLT, Nat.reduceLeDiff, Nat.sub_self, decide_eq_true_eq, sz0, sz1, sz2, sz3, sz4, sz5, sz6, sz7, sz8, ok_int, ok_bl, ok_non, ok_tup, ok_lst, eqb_int, eqb_bl, at0, at1, at2, at3, at4, at5, beq_iff_eq, ite_true, ite_false, Bool.false_eq_true, if_true, if_false, true_and, and_true, false_and, Bool.not_true, Bool.not_false])
      refine lparted_ o (by omega) ?_
      cases hR : pm (c.length + 1) [] c with
      | none =>
        (try simp only [fAsg, fPar, fPar2, fPar3, fIfS, fRet, fRetN, fDrop, fNil, fBreak, fCont, fAugN, fAugF, fApp, fRaise, mvL, moved, eVar, eVal, eOp2, eOp1, eTup, eLst, eNew, eIf, eAnd2, eOr2, eNot1, eFrz, asD, asB, eFld, eCall, eMake, eMeth, eSl, oNone, oSome, aNil, aCons, lNil, lCons, gNm, gNmS, gFd, gIx, gTp, gsNil, gsCons, tTru, tBool, tAnd2, tOr2, tNot1, tYesD, addM_i, addM_s, addM_t, addM_oo, addM_bo, addM_ob, addM_lo, addM_ol, addM_ll, subM_i, mulM_i, mulM_o, mulT_t, fdivM_i, modM_i, intAddM_i, cmpM_i, min2M_i, max2M_i, negM_i, absM_i, toIntM_i, isnM_any, isN, eqM_i, eqM_b, eqM_s, eqM_t, ixM_t, ixM_o, ixM_l, ixM_k, ixM_r, ixM_b, truM_b, truM_i, truM_n, truM_t, truM_o, lenM, sumM, sumA, tupM, listM, slM, lget, lgetR, lput, iRng1D, iRng2D, iSeq, itOf, eDnew, eDic, eDgt, dgtC, dgM, gDk, keyD, asD, neNilM, List.map_cons, List.map_nil, List.replicate_zero, List.replicate_succ, List.cons_append, List.nil_append, List.append_nil, List.getElem?_cons_succ, List.getElem?_cons_zero, List.set_cons_zero, List.set_cons_succ, List.length_cons, List.length_nil, Nat.reduceAdd, Nat.reduceSub, Nat.reduceLT, Nat.reduceLeDiff, Nat.sub_self, decide_eq_true_eq, sz0, sz1, sz2, sz3, sz4, sz5, sz6, sz7, sz8, ok_int, ok_bl, ok_non, ok_tup, ok_lst, eqb_int, eqb_bl, at0, at1, at2, at3, at4, at5, beq_iff_eq, ite_true, ite_false, Bool.false_eq_true, if_true, if_false, true_and, and_true, false_and, Bool.not_true, Bool.not_false, resO])
        refine fCons.go ?_
        (try simp only [fAsg, fPar, fPar2, fPar3, fIfS, fRet, fRetN, fDrop, fNil, fBreak, fCont, fAugN, fAugF, fApp, fRaise, mvL, moved, eVar, eVal, eOp2, eOp1, eTup, eLst, eNew, eIf, eAnd2, eOr2, eNot1, eFrz, asD, asB, eFld, eCall, eMake, eMeth, eSl, oNone, oSome, aNil, aCons, lNil, lCons, gNm, gNmS, gFd, gIx, gTp, gsNil, gsCons, tTru, tBool, tAnd2, tOr2, tNot1, tYesD, addM_i, addM_s, addM_t, addM_oo, addM_bo, addM_ob, addM_lo, addM_ol, addM_ll, subM_i, mulM_i, mulM_o, mulT_t, fdivM_i, modM_i, intAddM_i, cmpM_i, min2M_i, max2M_i, negM_i, absM_i, toIntM_i, isnM_any, isN, eqM_i, eqM_b, eqM_s, eqM_t, ixM_t, ixM_o, ixM_l, ixM_k, ixM_r, ixM_b, truM_b, truM_i, truM_n, truM_t, truM_o, lenM, sumM, sumA, tupM, listM, slM, lget, lgetR, lput, iRng1D, iRng2D, iSeq, itOf, eDnew, eDic, eDgt, dgtC, dgM, gDk, keyD, asD, neNilM, List.map_cons, List.map_nil, List.replicate_zero, List.replicate_succ, List.cons_append, List.nil_append, List.append_nil, List.getElem?_cons_succ, List.getElem?_cons_zero, List.set_cons_zero, List.set_cons_succ, List.length_cons, List.length_nil, Nat.reduceAdd, Nat.reduceSub, Nat.reduceLT, Nat.reduceLeDiff, Nat.sub_self, decide_eq_true_eq, sz0, sz1, sz2, sz3, sz4, sz5, sz6, sz7, sz8, ok_int, ok_bl, ok_non, ok_tup, ok_lst, eqb_int, eqb_bl, at0, at1, at2, at3, at4, at5, beq_iff_eq, ite_true, ite_false, Bool.false_eq_true, if_true, if_false, true_and, and_true, false_and, Bool.not_true, Bool.not_false])
        refine sameA_n ?_
        (try simp only [fAsg, fPar, fPar2, fPar3, fIfS, fRet, fRetN, fDrop, fNil, fBreak, fCont, fAugN, fAugF, fApp, fRaise, mvL, moved, eVar, eVal, eOp2, eOp1, eTup, eLst, eNew, eIf, eAnd2, eOr2, eNot1, eFrz, asD, asB, eFld, eCall, eMake, eMeth, eSl, oNone, oSome, aNil, aCons, lNil, lCons, gNm, gNmS, gFd, gIx, gTp, gsNil, gsCons, tTru, tBool, tAnd2, tOr2, tNot1, tYesD, addM_i, addM_s, addM_t, addM_oo, addM_bo, addM_ob, addM_lo, addM_ol, addM_ll, subM_i, mulM_i, mulM_o, mulT_t, fdivM_i, modM_i, intAddM_i, cmpM_i, min2M_i, max2M_i, negM_i, absM_i, toIntM_i, isnM_any, isN, eqM_i, eqM_b, eqM_s, eqM_t, ixM_t, ixM_o, ixM_l, ixM_k, ixM_r, ixM_b, truM_b, truM_i, truM_n, truM_t, truM_o, lenM, sumM, sumA, tupM, listM, slM, lget, lgetR, lput, iRng1D, iRng2D, iSeq, itOf, eDnew, eDic, eDgt, dgtC, dgM, gDk, keyD, asD, neNilM, List.map_cons, List.map_nil, List.replicate_zero, List.replicate_succ, List.cons_append, List.nil_append, List.append_nil, List.getElem?_cons_succ, List.getElem?_cons_zero, List.set_cons_zero, List.set_cons_succ, List.length_cons, List.length_nil, Nat.reduceAdd, Nat.reduceSub, Nat.reduceLT, Nat.reduceLeDiff, Nat.sub_self, decide_eq_true_eq, sz0, sz1, sz2, sz3, sz4, sz5, sz6, sz7, sz8, ok_int, ok_bl, ok_non, ok_tup, ok_lst, eqb_int, eqb_bl, at0, at1, at2, at3, at4, at5, beq_iff_eq, ite_true, ite_false, Bool.false_eq_true, if_true, if_false, true_and, and_true, false_and, Bool.not_true, Bool.not_false])
        exact ⟨z6, _, _, _, z13, rfl⟩
      | some R =>
        obtain ⟨f, r⟩ := R
        have fl := pm_flat hR
        have le := pm_len hR
        simp only [List.flatten_nil, List.nil_append, List.length_nil] at fl le
        (try simp only [fAsg, fPar, fPar2, fPar3, fIfS, fRet, fRetN, fDrop, fNil, fBreak, fCont, fAugN, fAugF, fApp, fRaise, mvL, moved, eVar, eVal, eOp2, eOp1, eTup, eLst, eNew, eIf, eAnd2, eOr2, eNot1, eFrz, asD, asB, eFld, eCall, eMake, eMeth, eSl, oNone, oSome, aNil, aCons, lNil, lCons, gNm, gNmS, gFd, gIx, gTp, gsNil, gsCons, tTru, tBool, tAnd2, tOr2, tNot1, tYesD, addM_i, addM_s, addM_t, addM_oo, addM_bo, addM_ob, addM_lo, addM_ol, addM_ll, subM_i, mulM_i, mulM_o, mulT_t, fdivM_i, modM_i, intAddM_i, cmpM_i, min2M_i, max2M_i, negM_i, absM_i, toIntM_i, isnM_any, isN, eqM_i, eqM_b, eqM_s, eqM_t, ixM_t, ixM_o, ixM_l, ixM_k, ixM_r, ixM_b, truM_b, truM_i, truM_n, truM_t, truM_o, lenM, sumM, sumA, tupM, listM, slM, lget, lgetR, lput, iRng1D, iRng2D, iSeq, itOf, eDnew, eDic, eDgt, dgtC, dgM, gDk, keyD, asD, neNilM, List.map_cons, List.map_nil, List.replicate_zero, List.replicate_succ, List.cons_append, List.nil_append, List.append_nil, List.getElem?_cons_succ, List.getElem?_cons_zero, List.set_cons_zero, List.set_cons_succ, List.length_cons, List.length_nil, Nat.reduceAdd, Nat.reduceSub, Nat.reduceLT, Nat.reduceLeDiff, Nat.sub_self, decide_eq_true_eq, sz0, sz1, sz2, sz3, sz4, sz5, sz6, sz7, sz8, ok_int, ok_bl, ok_non, ok_tup, ok_lst, eqb_int, eqb_bl, at0, at1, at2, at3, at4, at5, beq_iff_eq, ite_true, ite_false, Bool.false_eq_true, if_true, if_false, true_and, and_true, false_and, Bool.not_true, Bool.not_false, resO, resD])
        refine fCons.go ?_
        (try simp only [fAsg, fPar, fPar2, fPar3, fIfS, fRet, fRetN, fDrop, fNil, fBreak, fCont, fAugN, fAugF, fApp, fRaise, mvL, moved, eVar, eVal, eOp2, eOp1, eTup, eLst, eNew, eIf, eAnd2, eOr2, eNot1, eFrz, asD, asB, eFld, eCall, eMake, eMeth, eSl, oNone, oSome, aNil, aCons, lNil, lCons, gNm, gNmS, gFd, gIx, gTp, gsNil, gsCons, tTru, tBool, tAnd2, tOr2, tNot1, tYesD, addM_i, addM_s, addM_t, addM_oo, addM_bo, addM_ob, addM_lo, addM_ol, addM_ll, subM_i, mulM_i, mulM_o, mulT_t, fdivM_i, modM_i, intAddM_i, cmpM_i, min2M_i, max2M_i, negM_i, absM_i, toIntM_i, isnM_any, isN, eqM_i, eqM_b, eqM_s, eqM_t, ixM_t, ixM_o, ixM_l, ixM_k, ixM_r, ixM_b, truM_b, truM_i, truM_n, truM_t, truM_o, lenM, sumM, sumA, tupM, listM, slM, lget, lgetR, lput, iRng1D, iRng2D, iSeq, itOf, eDnew, eDic, eDgt, dgtC, dgM, gDk, keyD, asD, neNilM, List.map_cons, List.map_nil, List.replicate_zero, List.replicate_succ, List.cons_append, List.nil_append, List.append_nil, List.getElem?_cons_succ, List.getElem?_cons_zero, List.set_cons_zero, List.set_cons_succ, List.length_cons, List.length_nil, Nat.reduceAdd, Nat.reduceSub, Nat.reduceLT, Nat.reduceLeDiff, Nat.sub_self, decide_eq_true_eq, sz0, sz1, sz2, sz3, sz4, sz5, sz6, sz7, sz8, ok_int, ok_bl, ok_non, ok_tup, ok_lst, eqb_int, eqb_bl, at0, at1, at2, at3, at4, at5, beq_iff_eq, ite_true, ite_false, Bool.false_eq_true, if_true, if_false, true_and, and_true, false_and, Bool.not_true, Bool.not_false])
        refine same_res (f := f) (r := r) (by rw [fl]; exact o) (by omega) (by rw [fl]; omega) ?_
        (try simp only [fAsg, fPar, fPar2, fPar3, fIfS, fRet, fRetN, fDrop, fNil, fBreak, fCont, fAugN, fAugF, fApp, fRaise, mvL, moved, eVar, eVal, eOp2, eOp1, eTup, eLst, eNew, eIf, eAnd2, eOr2, eNot1, eFrz, asD, asB, eFld, eCall, eMake, eMeth, eSl, oNone, oSome, aNil, aCons, lNil, lCons, gNm, gNmS, gFd, gIx, gTp, gsNil, gsCons, tTru, tBool, tAnd2, tOr2, tNot1, tYesD, addM_i, addM_s, addM_t, addM_oo, addM_bo, addM_ob, addM_lo, addM_ol, addM_ll, subM_i, mulM_i, mulM_o, mulT_t, fdivM_i, modM_i, intAddM_i, cmpM_i, min2M_i, max2M_i, negM_i, absM_i, toIntM_i, isnM_any, isN, eqM_i, eqM_b, eqM_s, eqM_t, ixM_t, ixM_o, ixM_l, ixM_k, ixM_r, ixM_b, truM_b, truM_i, truM_n, truM_t, truM_o, lenM, sumM, sumA, tupM, listM, slM, lget, lgetR, lput, iRng1D, iRng2D, iSeq, itOf, eDnew, eDic, eDgt, dgtC, dgM, gDk, keyD, asD, neNilM, List.map_cons, List.map_nil, List.replicate_zero, List.replicate_succ, List.cons_append, List.nil_append, List.append_nil, List.getElem?_cons_succ, List.getElem?_cons_zero, List.set_cons_zero, List.set_cons_succ, List.length_cons, List.length_nil, Nat.reduceAdd, Nat.reduceSub, Nat.reduceLT, Nat.reduceLeDiff, Nat.sub_self, decide_eq_true_eq, sz0, sz1, sz2, sz3, sz4, sz5, sz6, sz7, sz8, ok_int, ok_bl, ok_non, ok_tup, ok_lst, eqb_int, eqb_bl, at0, at1, at2, at3, at4, at5, beq_iff_eq, ite_true, ite_false, Bool.false_eq_true, if_true, if_false, true_and, and_true, false_and, Bool.not_true, Bool.not_false])
        refine fCons.go ?_
        (try simp only [fAsg, fPar, fPar2, fPar3, fIfS, fRet, fRetN, fDrop, fNil, fBreak, fCont, fAugN, fAugF, fApp, fRaise, mvL, moved, eVar, eVal, eOp2, eOp1, eTup, eLst, eNew, eIf, eAnd2, eOr2, eNot1, eFrz, asD, asB, eFld, eCall, eMake, eMeth, eSl, oNone, oSome, aNil, aCons, lNil, lCons, gNm, gNmS, gFd, gIx, gTp, gsNil, gsCons, tTru, tBool, tAnd2, tOr2, tNot1, tYesD, addM_i, addM_s, addM_t, addM_oo, addM_bo, addM_ob, addM_lo, addM_ol, addM_ll, subM_i, mulM_i, mulM_o, mulT_t, fdivM_i, modM_i, intAddM_i, cmpM_i, min2M_i, max2M_i, negM_i, absM_i, toIntM_i, isnM_any, isN, eqM_i, eqM_b, eqM_s, eqM_t, ixM_t, ixM_o, ixM_l, ixM_k, ixM_r, ixM_b, truM_b, truM_i, truM_n, truM_t, truM_o, lenM, sumM, sumA, tupM, listM, slM, lget, lgetR, lput, iRng1D, iRng2D, iSeq, itOf, eDnew, eDic, eDgt, dgtC, dgM, gDk, keyD, asD, neNilM, List.map_cons, List.map_nil, List.replicate_zero, List.replicate_succ, List.cons_append, List.nil_append, List.append_nil, List.getElem?_cons_succ, List.getElem?_cons_zero, List.set_cons_zero, List.set_cons_succ, List.length_cons, List.length_nil, Nat.reduceAdd, Nat.reduceSub, Nat.reduceLT, Nat.reduceLeDiff, Nat.sub_self, decide_eq_true_eq, sz0, sz1, sz2, sz3, sz4, sz5, sz6, sz7, sz8, ok_int, ok_bl, ok_non, ok_tup, ok_lst, eqb_int, eqb_bl, at0, at1, at2, at3, at4, at5, beq_iff_eq, ite_true, ite_false, Bool.false_eq_true, if_true, if_false, true_and, and_true, false_and, Bool.not_true, Bool.not_false])
        refine fCons.go ?_
        refine back_ (f := f) (r := r) (by rw [fl]; omega) (by omega) fun z6 => ?_
        rw [fl]
        (try simp only [fAsg, fPar, fPar2, fPar3, fIfS, fRet, fRetN, fDrop, fNil, fBreak, fCont, fAugN, fAugF, fApp, fRaise, mvL, moved, eVar, eVal, eOp2, eOp1, eTup, eLst, eNew, eIf, eAnd2, eOr2, eNot1, eFrz, asD, asB, eFld, eCall, eMake, eMeth, eSl, oNone, oSome, aNil, aCons, lNil, lCons, gNm, gNmS, gFd, gIx, gTp, gsNil, gsCons, tTru, tBool, tAnd2, tOr2, tNot1, tYesD, addM_i, addM_s, addM_t, addM_oo, addM_bo, addM_ob, addM_lo, addM_ol, addM_ll, subM_i, mulM_i, mulM_o, mulT_t, fdivM_i, modM_i, intAddM_i, cmpM_i, min2M_i, max2M_i, negM_i, absM_i, toIntM_i, isnM_any, isN, eqM_i, eqM_b, eqM_s, eqM_t, ixM_t, ixM_o, ixM_l, ixM_k, ixM_r, ixM_b, truM_b, truM_i, truM_n, truM_t, truM_o, lenM, sumM, sumA, tupM, listM, slM, lget, lgetR, lput, iRng1D, iRng2D, iSeq, itOf, eDnew, eDic, eDgt, dgtC, dgM, gDk, keyD, asD, neNilM, List.map_cons, List.map_nil, List.replicate_zero, List.replicate_succ, List.cons_append, List.nil_append, List.append_nil, List.getElem?_cons_succ, List.getElem?_cons_zero, List.set_cons_zero, List.set_cons_succ, List.length_cons, List.length_nil, Nat.reduceAdd, Nat.reduceSub, Nat.reduceLT, Nat.reduceLeDiff, Nat.sub_self, decide_eq_true_eq, sz0, sz1, sz2, sz3, sz4, sz5, sz6, sz7, sz8, ok_int, ok_bl, ok_non, ok_tup, ok_lst, eqb_int, eqb_bl, at0, at1, at2, at3, at4, at5, beq_iff_eq, ite_true, ite_false, Bool.false_eq_true, if_true, if_false, true_and, and_true, false_and, Bool.not_true, Bool.not_false, Sl14, sv])
        rw [eqM_same (d := tupI c) (okI c 63)]
        (try simp only [fAsg, fPar, fPar2, fPar3, fIfS, fRet, fRetN, fDrop, fNil, fBreak, fCont, fAugN, fAugF, fApp, fRaise, mvL, moved, eVar, eVal, eOp2, eOp1, eTup, eLst, eNew, eIf, eAnd2, eOr2, eNot1, eFrz, asD, asB, eFld, eCall, eMake, eMeth, eSl, oNone, oSome, aNil, aCons, lNil, lCons, gNm, gNmS, gFd, gIx, gTp, gsNil, gsCons, tTru, tBool, tAnd2, tOr2, tNot1, tYesD, addM_i, addM_s, addM_t, addM_oo, addM_bo, addM_ob, addM_lo, addM_ol, addM_ll, subM_i, mulM_i, mulM_o, mulT_t, fdivM_i, modM_i, intAddM_i, cmpM_i, min2M_i, max2M_i, negM_i, absM_i, toIntM_i, isnM_any, isN, eqM_i, eqM_b, eqM_s, eqM_t, ixM_t, ixM_o, ixM_l, ixM_k, ixM_r, ixM_b, truM_b, truM_i, truM_n, truM_t, truM_o, lenM, sumM, sumA, tupM, listM, slM, lget, lgetR, lput, iRng1D, iRng2D, iSeq, itOf, eDnew, eDic, eDgt, dgtC, dgM, gDk, keyD, asD, neNilM, List.map_cons, List.map_nil, List.replicate_zero, List.replicate_succ, List.cons_append, List.nil_append, List.append_nil, List.getElem?_cons_succ, List.getElem?_cons_zero, List.set_cons_zero, List.set_cons_succ, List.length_cons, List.length_nil, Nat.reduceAdd, Nat.reduceSub, Nat.reduceLT, Nat.reduceLeDiff, Nat.sub_self, decide_eq_true_eq, sz0, sz1, sz2, sz3, sz4, sz5, sz6, sz7, sz8, ok_int, ok_bl, ok_non, ok_tup, ok_lst, eqb_int, eqb_bl, at0, at1, at2, at3, at4, at5, beq_iff_eq, ite_true, ite_false, Bool.false_eq_true, if_true, if_false, true_and, and_true, false_and, Bool.not_true, Bool.not_false])
        exact ⟨z6, _, _, _, _, rfl⟩
  · rintro δ μ' ⟨rfl, z6, z10, z11, z12, z13, rfl⟩
    exact hN z6 z10 z11 z12 z13
def Q4 (zs : List Int) (z2 z3 z4 : Option P) (w : List Int) (δ : Sl) (μ : Mu) : Prop := ∃ z6 z7 z8 z9 z10 z11 z12 z13, δ = Sl14 zs z2 z3 z4 (sv w) z6 z7 z8 z9 z10 z11 z12 z13 ∧ Draw μ 0
theorem spoils_ (T : Tx K mg a) {w : List Int} (h1 : Oc w) (h2 : w.length ≤ 200) {δ : Sl} (st : Q4 zs z2 z3 z4 w δ μ) (hN : ∀ δ' μ', Q4 zs z2 z3 z4 w δ' μ' → D'.nx δ' μ') : L_law_4 K a D' δ μ := by
  unfold L_law_4
  rw [fFor_eq]
  have st' := st
  obtain ⟨z6, z7, z8, z9, z10, z11, z12, z13, rfl, _junk⟩ := st'
  (try simp only [fAsg, fPar, fPar2, fPar3, fIfS, fRet, fRetN, fDrop, fNil, fBreak, fCont, fAugN, fAugF, fApp, fRaise, mvL, moved, eVar, eVal, eOp2, eOp1, eTup, eLst, eNew, eIf, eAnd2, eOr2, eNot1, eFrz, asD, asB, eFld, eCall, eMake, eMeth, eSl, oNone, oSome, aNil, aCons, lNil, lCons, gNm, gNmS, gFd, gIx, gTp, gsNil, gsCons, tTru, tBool, tAnd2, tOr2, tNot1, tYesD, addM_i, addM_s, addM_t, addM_oo, addM_bo, addM_ob, addM_lo, addM_ol, addM_ll, subM_i, mulM_i, mulM_o, mulT_t, fdivM_i, modM_i, intAddM_i, cmpM_i, min2M_i, max2M_i, negM_i, absM_i, toIntM_i, isnM_any, isN, eqM_i, eqM_b, eqM_s, eqM_t, ixM_t, ixM_o, ixM_l, ixM_k, ixM_r, ixM_b, truM_b, truM_i, truM_n, truM_t, truM_o, lenM, sumM, sumA, tupM, listM, slM, lget, lgetR, lput, iRng1D, iRng2D, iSeq, itOf, eDnew, eDic, eDgt, dgtC, dgM, gDk, keyD, asD, neNilM, List.map_cons, List.map_nil, List.replicate_zero, List.replicate_succ, List.cons_append, List.nil_append, List.append_nil, List.getElem?_cons_succ, List.getElem?_cons_zero, List.set_cons_zero, List.set_cons_succ, List.length_cons, List.length_nil, Nat.reduceAdd, Nat.reduceSub, Nat.reduceLT, Nat.reduceLeDiff, Nat.sub_self, decide_eq_true_eq, sz0, sz1, sz2, sz3, sz4, sz5, sz6, sz7, sz8, ok_int, ok_bl, ok_non, ok_tup, ok_lst, eqb_int, eqb_bl, at0, at1, at2, at3, at4, at5, beq_iff_eq, ite_true, ite_false, Bool.false_eq_true, if_true, if_false, true_and, and_true, false_and, Bool.not_true, Bool.not_false, Sl14])
  refine ⟨by decide, ?_⟩
  refine loop_rng (fun _ δ μ => Q4 zs z2 z3 z4 w δ μ) st ?_ fun δ μ q => hN δ μ q
  clear _junk st
  rintro i δ μ hi ⟨z6, z7, z8, z9, z10, z11, z12, z13, rfl, d⟩
  (try simp only [fAsg, fPar, fPar2, fPar3, fIfS, fRet, fRetN, fDrop, fNil, fBreak, fCont, fAugN, fAugF, fApp, fRaise, mvL, moved, eVar, eVal, eOp2, eOp1, eTup, eLst, eNew, eIf, eAnd2, eOr2, eNot1, eFrz, asD, asB, eFld, eCall, eMake, eMeth, eSl, oNone, oSome, aNil, aCons, lNil, lCons, gNm, gNmS, gFd, gIx, gTp, gsNil, gsCons, tTru, tBool, tAnd2, tOr2, tNot1, tYesD, addM_i, addM_s, addM_t, addM_oo, addM_bo, addM_ob, addM_lo, addM_ol, addM_ll, subM_i, mulM_i, mulM_o, mulT_t, fdivM_i, modM_i, intAddM_i, cmpM_i, min2M_i, max2M_i, negM_i, absM_i, toIntM_i, isnM_any, isN, eqM_i, eqM_b, eqM_s, eqM_t, ixM_t, ixM_o, ixM_l, ixM_k, ixM_r, ixM_b, truM_b, truM_i, truM_n, truM_t, truM_o, lenM, sumM, sumA, tupM, listM, slM, lget, lgetR, lput, iRng1D, iRng2D, iSeq, itOf, eDnew, eDic, eDgt, dgtC, dgM, gDk, keyD, asD, neNilM, List.map_cons, List.map_nil, List.replicate_zero, List.replicate_succ, List.cons_append, List.nil_append, List.append_nil, List.getElem?_cons_succ, List.getElem?_cons_zero, List.set_cons_zero, List.set_cons_succ, List.length_cons, List.length_nil, Nat.reduceAdd, Nat.reduceSub, Nat.reduceLT, Nat.reduceLeDiff, Nat.sub_self, decide_eq_true_eq, sz0, sz1, sz2, sz3, sz4, sz5, sz6, sz7, sz8, ok_int, ok_bl, ok_non, ok_tup, ok_lst, eqb_int, eqb_bl, at0, at1, at2, at3, at4, at5, beq_iff_eq, ite_true, ite_false, Bool.false_eq_true, if_true, if_false, true_and, and_true, false_and, Bool.not_true, Bool.not_false, Sl14, sv, tupI])
  refine fCons.go ?_
  (try simp only [fAsg, fPar, fPar2, fPar3, fIfS, fRet, fRetN, fDrop, fNil, fBreak, fCont, fAugN, fAugF, fApp, fRaise, mvL, moved, eVar, eVal, eOp2, eOp1, eTup, eLst, eNew, eIf, eAnd2, eOr2, eNot1, eFrz, asD, asB, eFld, eCall, eMake, eMeth, eSl, oNone, oSome, aNil, aCons, lNil, lCons, gNm, gNmS, gFd, gIx, gTp, gsNil, gsCons, tTru, tBool, tAnd2, tOr2, tNot1, tYesD, addM_i, addM_s, addM_t, addM_oo, addM_bo, addM_ob, addM_lo, addM_ol, addM_ll, subM_i, mulM_i, mulM_o, mulT_t, fdivM_i, modM_i, intAddM_i, cmpM_i, min2M_i, max2M_i, negM_i, absM_i, toIntM_i, isnM_any, isN, eqM_i, eqM_b, eqM_s, eqM_t, ixM_t, ixM_o, ixM_l, ixM_k, ixM_r, ixM_b, truM_b, truM_i, truM_n, truM_t, truM_o, lenM, sumM, sumA, tupM, listM, slM, lget, lgetR, lput, iRng1D, iRng2D, iSeq, itOf, eDnew, eDic, eDgt, dgtC, dgM, gDk, keyD, asD, neNilM, List.map_cons, List.map_nil, List.replicate_zero, List.replicate_succ, List.cons_append, List.nil_append, List.append_nil, List.getElem?_cons_succ, List.getElem?_cons_zero, List.set_cons_zero, List.set_cons_succ, List.length_cons, List.length_nil, Nat.reduceAdd, Nat.reduceSub, Nat.reduceLT, Nat.reduceLeDiff, Nat.sub_self, decide_eq_true_eq, sz0, sz1, sz2, sz3, sz4, sz5, sz6, sz7, sz8, ok_int, ok_bl, ok_non, ok_tup, ok_lst, eqb_int, eqb_bl, at0, at1, at2, at3, at4, at5, beq_iff_eq, ite_true, ite_false, Bool.false_eq_true, if_true, if_false, true_and, and_true, false_and, Bool.not_true, Bool.not_false, List.length_map])
  refine take__ d (by omega) (by omega) fun at0_ μ a0 a1 d _ => ?_
  obtain ⟨at_, rfl⟩ : ∃ n : Nat, at0_ = n := ⟨at0_.toNat, by omega⟩
  have s1 : cutL (w.map D.int) none (some (at_ : Int)) = (w.take at_).map D.int := by rw [List.map_take]; exact cut_pre (k := at_) rfl
  have s2 : cutL (w.map D.int) (some ((at_ : Int) + 1)) none = (w.drop (at_ + 1)).map D.int := by rw [List.map_drop]; exact cut_post (k := at_ + 1) (by omega)
  (try simp only [fAsg, fPar, fPar2, fPar3, fIfS, fRet, fRetN, fDrop, fNil, fBreak, fCont, fAugN, fAugF, fApp, fRaise, mvL, moved, eVar, eVal, eOp2, eOp1, eTup, eLst, eNew, eIf, eAnd2, eOr2, eNot1, eFrz, asD, asB, eFld, eCall, eMake, eMeth, eSl, oNone, oSome, aNil, aCons, lNil, lCons, gNm, gNmS, gFd, gIx, gTp, gsNil, gsCons, tTru, tBool, tAnd2, tOr2, tNot1, tYesD, addM_i, addM_s, addM_t, addM_oo, addM_bo, addM_ob, addM_lo, addM_ol, addM_ll, subM_i, mulM_i, mulM_o, mulT_t, fdivM_i, modM_i, intAddM_i, cmpM_i, min2M_i, max2M_i, negM_i, absM_i, toIntM_i, isnM_any, isN, eqM_i, eqM_b, eqM_s, eqM_t, ixM_t, ixM_o, ixM_l, ixM_k, ixM_r, ixM_b, truM_b, truM_i, truM_n, truM_t, truM_o, lenM, sumM, sumA, tupM, listM, slM, lget, lgetR, lput, iRng1D, iRng2D, iSeq, itOf, eDnew, eDic, eDgt, dgtC, dgM, gDk, keyD, asD, neNilM, List.map_cons, List.map_nil, List.replicate_zero, List.replicate_succ, List.cons_append, List.nil_append, List.append_nil, List.getElem?_cons_succ, List.getElem?_cons_zero, List.set_cons_zero, List.set_cons_succ, List.length_cons, List.length_nil, Nat.reduceAdd, Nat.reduceSub, Nat.reduceLT, Nat.reduceLeDiff, Nat.sub_self, decide_eq_true_eq, sz0, sz1, sz2, sz3, sz4, sz5, sz6, sz7, sz8, ok_int, ok_bl, ok_non, ok_tup, ok_lst, eqb_int, eqb_bl, at0, at1, at2, at3, at4, at5, beq_iff_eq, ite_true, ite_false, Bool.false_eq_true, if_true, if_false, true_and, and_true, false_and, Bool.not_true, Bool.not_false])
  refine fCons.go ?_
  (try simp only [fAsg, fPar, fPar2, fPar3, fIfS, fRet, fRetN, fDrop, fNil, fBreak, fCont, fAugN, fAugF, fApp, fRaise, mvL, moved, eVar, eVal, eOp2, eOp1, eTup, eLst, eNew, eIf, eAnd2, eOr2, eNot1, eFrz, asD, asB, eFld, eCall, eMake, eMeth, eSl, oNone, oSome, aNil, aCons, lNil, lCons, gNm, gNmS, gFd, gIx, gTp, gsNil, gsCons, tTru, tBool, tAnd2, tOr2, tNot1, tYesD, addM_i, addM_s, addM_t, addM_oo, addM_bo, addM_ob, addM_lo, addM_ol, addM_ll, subM_i, mulM_i, mulM_o, mulT_t, fdivM_i, modM_i, intAddM_i, cmpM_i, min2M_i, max2M_i, negM_i, absM_i, toIntM_i, isnM_any, isN, eqM_i, eqM_b, eqM_s, eqM_t, ixM_t, ixM_o, ixM_l, ixM_k, ixM_r, ixM_b, truM_b, truM_i, truM_n, truM_t, truM_o, lenM, sumM, sumA, tupM, listM, slM, lget, lgetR, lput, iRng1D, iRng2D, iSeq, itOf, eDnew, eDic, eDgt, dgtC, dgM, gDk, keyD, asD, neNilM, List.map_cons, List.map_nil, List.replicate_zero, List.replicate_succ, List.cons_append, List.nil_append, List.append_nil, List.getElem?_cons_succ, List.getElem?_cons_zero, List.set_cons_zero, List.set_cons_succ, List.length_cons, List.length_nil, Nat.reduceAdd, Nat.reduceSub, Nat.reduceLT, Nat.reduceLeDiff, Nat.sub_self, decide_eq_true_eq, sz0, sz1, sz2, sz3, sz4, sz5, sz6, sz7, sz8, ok_int, ok_bl, ok_non, ok_tup, ok_lst, eqb_int, eqb_bl, at0, at1, at2, at3, at4, at5, beq_iff_eq, ite_true, ite_false, Bool.false_eq_true, if_true, if_false, true_and, and_true, false_and, Bool.not_true, Bool.not_false, s1])
  refine take__ d (by decide) (by decide) fun u μ u0 u1 d _ => ?_
  (try simp only [fAsg, fPar, fPar2, fPar3, fIfS, fRet, fRetN, fDrop, fNil, fBreak, fCont, fAugN, fAugF, fApp, fRaise, mvL, moved, eVar, eVal, eOp2, eOp1, eTup, eLst, eNew, eIf, eAnd2, eOr2, eNot1, eFrz, asD, asB, eFld, eCall, eMake, eMeth, eSl, oNone, oSome, aNil, aCons, lNil, lCons, gNm, gNmS, gFd, gIx, gTp, gsNil, gsCons, tTru, tBool, tAnd2, tOr2, tNot1, tYesD, addM_i, addM_s, addM_t, addM_oo, addM_bo, addM_ob, addM_lo, addM_ol, addM_ll, subM_i, mulM_i, mulM_o, mulT_t, fdivM_i, modM_i, intAddM_i, cmpM_i, min2M_i, max2M_i, negM_i, absM_i, toIntM_i, isnM_any, isN, eqM_i, eqM_b, eqM_s, eqM_t, ixM_t, ixM_o, ixM_l, ixM_k, ixM_r, ixM_b, truM_b, truM_i, truM_n, truM_t, truM_o, lenM, sumM, sumA, tupM, listM, slM, lget, lgetR, lput, iRng1D, iRng2D, iSeq, itOf, eDnew, eDic, eDgt, dgtC, dgM, gDk, keyD, asD, neNilM, List.map_cons, List.map_nil, List.replicate_zero, List.replicate_succ, List.cons_append, List.nil_append, List.append_nil, List.getElem?_cons_succ, List.getElem?_cons_zero, List.set_cons_zero, List.set_cons_succ, List.length_cons, List.length_nil, Nat.reduceAdd, Nat.reduceSub, Nat.reduceLT, Nat.reduceLeDiff, Nat.sub_self, decide_eq_true_eq, sz0, sz1, sz2, sz3, sz4, sz5, sz6, sz7, sz8, ok_int, ok_bl, ok_non, ok_tup, ok_lst, eqb_int, eqb_bl, at0, at1, at2, at3, at4, at5, beq_iff_eq, ite_true, ite_false, Bool.false_eq_true, if_true, if_false, true_and, and_true, false_and, Bool.not_true, Bool.not_false])
  refine take__ d (by decide) (by decide) fun v μ v0 v1 d _ => ?_
  (try simp only [fAsg, fPar, fPar2, fPar3, fIfS, fRet, fRetN, fDrop, fNil, fBreak, fCont, fAugN, fAugF, fApp, fRaise, mvL, moved, eVar, eVal, eOp2, eOp1, eTup, eLst, eNew, eIf, eAnd2, eOr2, eNot1, eFrz, asD, asB, eFld, eCall, eMake, eMeth, eSl, oNone, oSome, aNil, aCons, lNil, lCons, gNm, gNmS, gFd, gIx, gTp, gsNil, gsCons, tTru, tBool, tAnd2, tOr2, tNot1, tYesD, addM_i, addM_s, addM_t, addM_oo, addM_bo, addM_ob, addM_lo, addM_ol, addM_ll, subM_i, mulM_i, mulM_o, mulT_t, fdivM_i, modM_i, intAddM_i, cmpM_i, min2M_i, max2M_i, negM_i, absM_i, toIntM_i, isnM_any, isN, eqM_i, eqM_b, eqM_s, eqM_t, ixM_t, ixM_o, ixM_l, ixM_k, ixM_r, ixM_b, truM_b, truM_i, truM_n, truM_t, truM_o, lenM, sumM, sumA, tupM, listM, slM, lget, lgetR, lput, iRng1D, iRng2D, iSeq, itOf, eDnew, eDic, eDgt, dgtC, dgM, gDk, keyD, asD, neNilM, List.map_cons, List.map_nil, List.replicate_zero, List.replicate_succ, List.cons_append, List.nil_append, List.append_nil, List.getElem?_cons_succ, List.getElem?_cons_zero, List.set_cons_zero, List.set_cons_succ, List.length_cons, List.length_nil, Nat.reduceAdd, Nat.reduceSub, Nat.reduceLT, Nat.reduceLeDiff, Nat.sub_self, decide_eq_true_eq, sz0, sz1, sz2, sz3, sz4, sz5, sz6, sz7, sz8, ok_int, ok_bl, ok_non, ok_tup, ok_lst, eqb_int, eqb_bl, at0, at1, at2, at3, at4, at5, beq_iff_eq, ite_true, ite_false, Bool.false_eq_true, if_true, if_false, true_and, and_true, false_and, Bool.not_true, Bool.not_false])
  intro _
  refine take__ d (by decide) (by decide) fun k μ k0 k1 d _ => ?_
  obtain ⟨y, ey, y0⟩ : ∃ y : Int, atI [D.int (34 + u), D.int 0, D.int 32, D.int 33, D.int v] k = some (.int y) ∧ 0 ≤ y ∧ y < 256 := by
    have : k = 0 ∨ k = 1 ∨ k = 2 ∨ k = 3 ∨ k = 4 := by omega
    rcases this with rfl | rfl | rfl | rfl | rfl
    · exact ⟨34 + u, at0, by omega⟩
    · exact ⟨0, at1, by omega⟩
    · exact ⟨32, at2, by omega⟩
    · exact ⟨33, at3, by omega⟩
    · exact ⟨v, at4, by omega⟩
  (try simp only [fAsg, fPar, fPar2, fPar3, fIfS, fRet, fRetN, fDrop, fNil, fBreak, fCont, fAugN, fAugF, fApp, fRaise, mvL, moved, eVar, eVal, eOp2, eOp1, eTup, eLst, eNew, eIf, eAnd2, eOr2, eNot1, eFrz, asD, asB, eFld, eCall, eMake, eMeth, eSl, oNone, oSome, aNil, aCons, lNil, lCons, gNm, gNmS, gFd, gIx, gTp, gsNil, gsCons, tTru, tBool, tAnd2, tOr2, tNot1, tYesD, addM_i, addM_s, addM_t, addM_oo, addM_bo, addM_ob, addM_lo, addM_ol, addM_ll, subM_i, mulM_i, mulM_o, mulT_t, fdivM_i, modM_i, intAddM_i, cmpM_i, min2M_i, max2M_i, negM_i, absM_i, toIntM_i, isnM_any, isN, eqM_i, eqM_b, eqM_s, eqM_t, ixM_t, ixM_o, ixM_l, ixM_k, ixM_r, ixM_b, truM_b, truM_i, truM_n, truM_t, truM_o, lenM, sumM, sumA, tupM, listM, slM, lget, lgetR, lput, iRng1D, iRng2D, iSeq, itOf, eDnew, eDic, eDgt, dgtC, dgM, gDk, keyD, asD, neNilM, List.map_cons, List.map_nil, List.replicate_zero, List.replicate_succ, List.cons_append, List.nil_append, List.append_nil, List.getElem?_cons_succ, List.getElem?_cons_zero, List.set_cons_zero, List.set_cons_succ, List.length_cons, List.length_nil, Nat.reduceAdd, Nat.reduceSub, Nat.reduceLT, Nat.reduceLeDiff, Nat.sub_self, decide_eq_true_eq, sz0, sz1, sz2, sz3, sz4, sz5, sz6, sz7, sz8, ok_int, ok_bl, ok_non, ok_tup, ok_lst, eqb_int, eqb_bl, at0, at1, at2, at3, at4, at5, beq_iff_eq, ite_true, ite_false, Bool.false_eq_true, if_true, if_false, true_and, and_true, false_and, Bool.not_true, Bool.not_false, ey, s2, List.length_map, List.length_append])
  have l1 : (w.take at_).length ≤ w.length := by rw [List.length_take]; omega
  have l2 : (w.drop (at_ + 1)).length ≤ w.length := by rw [List.length_drop]; omega
  refine ⟨sz (by omega), sz (by omega), ?_⟩
  have em : (w.take at_).map D.int ++ D.int y :: (w.drop (at_ + 1)).map D.int = (w.take at_ ++ y :: w.drop (at_ + 1)).map D.int := by simp
  try simp only [List.append_assoc, List.cons_append, List.nil_append]
  rw [em]
  have l3 : (w.take at_ ++ y :: w.drop (at_ + 1)).length ≤ 300 := by
    rw [List.length_append, List.length_cons, List.length_take, List.length_drop]
    omega
  refine owns_ (at_ := at_) (w := w) (sp := w.take at_ ++ y :: w.drop (at_ + 1)) T h1 (by omega) ((h1.take _).app (Oc.cons y0 (h1.drop _))) l3 fun z6 z10 z11 z12 z13 => ?_
  exact ⟨_, _, _, _, _, _, _, _, rfl, d⟩
theorem valid_len {l : List Int} (h : Valid l) : 1 ≤ l.length := by
  obtain ⟨x, t, rfl, _⟩ := h
  simp
theorem flat_ge {f : List (List Int)} (h : ∀ l ∈ f, Valid l) : f.length ≤ f.flatten.length := by
  induction f with
  | nil => simp
  | cons l f ih =>
    have := valid_len (h l List.mem_cons_self)
    have := ih fun l hl => h l (List.mem_cons_of_mem _ hl)
    rw [List.flatten_cons, List.length_append, List.length_cons]
    omega
theorem flat_up {f : List (List Int)} (h : ∀ l ∈ f, l.length ≤ 22) : f.flatten.length ≤ 22 * f.length := by
  induction f with
  | nil => simp
  | cons l f ih =>
    have := h l List.mem_cons_self
    have := ih fun l hl => h l (List.mem_cons_of_mem _ hl)
    rw [List.flatten_cons, List.length_append, List.length_cons]
    omega
theorem flat_oc {f : List (List Int)} (h : ∀ l ∈ f, Oc l) : Oc f.flatten := fun x hx => by
  obtain ⟨l, hl, hx⟩ := List.mem_flatten.mp hx
  exact h l hl x hx
def Q5 (zs : List Int) (δ : Sl) (μ : Mu) : Prop := ∃ z2 z3 z4 z5 z6 z7 z8 z9 z10 z11 z12 z13, δ = Sl14 zs z2 z3 z4 z5 z6 z7 z8 z9 z10 z11 z12 z13 ∧ Draw μ 0
theorem turns_ (T : Tx K mg a) {δ : Sl} (st : Q5 zs δ μ) (hN : ∀ δ' μ', Q5 zs δ' μ' → D'.nx δ' μ') : L_law_5 K a D' δ μ := by
  unfold L_law_5
  rw [fFor_eq]
  have st' := st
  obtain ⟨z2, z3, z4, z5, z6, z7, z8, z9, z10, z11, z12, z13, rfl, _junk⟩ := st'
  (try simp only [fAsg, fPar, fPar2, fPar3, fIfS, fRet, fRetN, fDrop, fNil, fBreak, fCont, fAugN, fAugF, fApp, fRaise, mvL, moved, eVar, eVal, eOp2, eOp1, eTup, eLst, eNew, eIf, eAnd2, eOr2, eNot1, eFrz, asD, asB, eFld, eCall, eMake, eMeth, eSl, oNone, oSome, aNil, aCons, lNil, lCons, gNm, gNmS, gFd, gIx, gTp, gsNil, gsCons, tTru, tBool, tAnd2, tOr2, tNot1, tYesD, addM_i, addM_s, addM_t, addM_oo, addM_bo, addM_ob, addM_lo, addM_ol, addM_ll, subM_i, mulM_i, mulM_o, mulT_t, fdivM_i, modM_i, intAddM_i, cmpM_i, min2M_i, max2M_i, negM_i, absM_i, toIntM_i, isnM_any, isN, eqM_i, eqM_b, eqM_s, eqM_t, ixM_t, ixM_o, ixM_l, ixM_k, ixM_r, ixM_b, truM_b, truM_i, truM_n, truM_t, truM_o, lenM, sumM, sumA, tupM, listM, slM, lget, lgetR, lput, iRng1D, iRng2D, iSeq, itOf, eDnew, eDic, eDgt, dgtC, dgM, gDk, keyD, asD, neNilM, List.map_cons, List.map_nil, List.replicate_zero, List.replicate_succ, List.cons_append, List.nil_append, List.append_nil, List.getElem?_cons_succ, List.getElem?_cons_zero, List.set_cons_zero, List.set_cons_succ, List.length_cons, List.length_nil, Nat.reduceAdd, Nat.reduceSub, Nat.reduceLT, Nat.reduceLeDiff, Nat.sub_self, decide_eq_true_eq, sz0, sz1, sz2, sz3, sz4, sz5, sz6, sz7, sz8, ok_int, ok_bl, ok_non, ok_tup, ok_lst, eqb_int, eqb_bl, at0, at1, at2, at3, at4, at5, beq_iff_eq, ite_true, ite_false, Bool.false_eq_true, if_true, if_false, true_and, and_true, false_and, Bool.not_true, Bool.not_false, Sl14])
  refine ⟨by decide, ?_⟩
  refine loop_rng (fun _ δ μ => Q5 zs δ μ) st ?_ fun δ μ q => hN δ μ q
  clear _junk st
  rintro i δ μ hi ⟨z2, z3, z4, z5, z6, z7, z8, z9, z10, z11, z12, z13, rfl, d⟩
  (try simp only [fAsg, fPar, fPar2, fPar3, fIfS, fRet, fRetN, fDrop, fNil, fBreak, fCont, fAugN, fAugF, fApp, fRaise, mvL, moved, eVar, eVal, eOp2, eOp1, eTup, eLst, eNew, eIf, eAnd2, eOr2, eNot1, eFrz, asD, asB, eFld, eCall, eMake, eMeth, eSl, oNone, oSome, aNil, aCons, lNil, lCons, gNm, gNmS, gFd, gIx, gTp, gsNil, gsCons, tTru, tBool, tAnd2, tOr2, tNot1, tYesD, addM_i, addM_s, addM_t, addM_oo, addM_bo, addM_ob, addM_lo, addM_ol, addM_ll, subM_i, mulM_i, mulM_o, mulT_t, fdivM_i, modM_i, intAddM_i, cmpM_i, min2M_i, max2M_i, negM_i, absM_i, toIntM_i, isnM_any, isN, eqM_i, eqM_b, eqM_s, eqM_t, ixM_t, ixM_o, ixM_l, ixM_k, ixM_r, ixM_b, truM_b, truM_i, truM_n, truM_t, truM_o, lenM, sumM, sumA, tupM, listM, slM, lget, lgetR, lput, iRng1D, iRng2D, iSeq, itOf, eDnew, eDic, eDgt, dgtC, dgM, gDk, keyD, asD, neNilM, List.map_cons, List.map_nil, List.replicate_zero, List.replicate_succ, List.cons_append, List.nil_append, List.append_nil, List.getElem?_cons_succ, List.getElem?_cons_zero, List.set_cons_zero, List.set_cons_succ, List.length_cons, List.length_nil, Nat.reduceAdd, Nat.reduceSub, Nat.reduceLT, Nat.reduceLeDiff, Nat.sub_self, decide_eq_true_eq, sz0, sz1, sz2, sz3, sz4, sz5, sz6, sz7, sz8, ok_int, ok_bl, ok_non, ok_tup, ok_lst, eqb_int, eqb_bl, at0, at1, at2, at3, at4, at5, beq_iff_eq, ite_true, ite_false, Bool.false_eq_true, if_true, if_false, true_and, and_true, false_and, Bool.not_true, Bool.not_false, Sl14])
  refine fCons.go ?_
  (try simp only [fAsg, fPar, fPar2, fPar3, fIfS, fRet, fRetN, fDrop, fNil, fBreak, fCont, fAugN, fAugF, fApp, fRaise, mvL, moved, eVar, eVal, eOp2, eOp1, eTup, eLst, eNew, eIf, eAnd2, eOr2, eNot1, eFrz, asD, asB, eFld, eCall, eMake, eMeth, eSl, oNone, oSome, aNil, aCons, lNil, lCons, gNm, gNmS, gFd, gIx, gTp, gsNil, gsCons, tTru, tBool, tAnd2, tOr2, tNot1, tYesD, addM_i, addM_s, addM_t, addM_oo, addM_bo, addM_ob, addM_lo, addM_ol, addM_ll, subM_i, mulM_i, mulM_o, mulT_t, fdivM_i, modM_i, intAddM_i, cmpM_i, min2M_i, max2M_i, negM_i, absM_i, toIntM_i, isnM_any, isN, eqM_i, eqM_b, eqM_s, eqM_t, ixM_t, ixM_o, ixM_l, ixM_k, ixM_r, ixM_b, truM_b, truM_i, truM_n, truM_t, truM_o, lenM, sumM, sumA, tupM, listM, slM, lget, lgetR, lput, iRng1D, iRng2D, iSeq, itOf, eDnew, eDic, eDgt, dgtC, dgM, gDk, keyD, asD, neNilM, List.map_cons, List.map_nil, List.replicate_zero, List.replicate_succ, List.cons_append, List.nil_append, List.append_nil, List.getElem?_cons_succ, List.getElem?_cons_zero, List.set_cons_zero, List.set_cons_succ, List.length_cons, List.length_nil, Nat.reduceAdd, Nat.reduceSub, Nat.reduceLT, Nat.reduceLeDiff, Nat.sub_self, decide_eq_true_eq, sz0, sz1, sz2, sz3, sz4, sz5, sz6, sz7, sz8, ok_int, ok_bl, ok_non, ok_tup, ok_lst, eqb_int, eqb_bl, at0, at1, at2, at3, at4, at5, beq_iff_eq, ite_true, ite_false, Bool.false_eq_true, if_true, if_false, true_and, and_true, false_and, Bool.not_true, Bool.not_false])
  refine octets_ d (by decide) (by decide) fun oc μ o l1 l2 d => ?_
  (try simp only [fAsg, fPar, fPar2, fPar3, fIfS, fRet, fRetN, fDrop, fNil, fBreak, fCont, fAugN, fAugF, fApp, fRaise, mvL, moved, eVar, eVal, eOp2, eOp1, eTup, eLst, eNew, eIf, eAnd2, eOr2, eNot1, eFrz, asD, asB, eFld, eCall, eMake, eMeth, eSl, oNone, oSome, aNil, aCons, lNil, lCons, gNm, gNmS, gFd, gIx, gTp, gsNil, gsCons, tTru, tBool, tAnd2, tOr2, tNot1, tYesD, addM_i, addM_s, addM_t, addM_oo, addM_bo, addM_ob, addM_lo, addM_ol, addM_ll, subM_i, mulM_i, mulM_o, mulT_t, fdivM_i, modM_i, intAddM_i, cmpM_i, min2M_i, max2M_i, negM_i, absM_i, toIntM_i, isnM_any, isN, eqM_i, eqM_b, eqM_s, eqM_t, ixM_t, ixM_o, ixM_l, ixM_k, ixM_r, ixM_b, truM_b, truM_i, truM_n, truM_t, truM_o, lenM, sumM, sumA, tupM, listM, slM, lget, lgetR, lput, iRng1D, iRng2D, iSeq, itOf, eDnew, eDic, eDgt, dgtC, dgM, gDk, keyD, asD, neNilM, List.map_cons, List.map_nil, List.replicate_zero, List.replicate_succ, List.cons_append, List.nil_append, List.append_nil, List.getElem?_cons_succ, List.getElem?_cons_zero, List.set_cons_zero, List.set_cons_succ, List.length_cons, List.length_nil, Nat.reduceAdd, Nat.reduceSub, Nat.reduceLT, Nat.reduceLeDiff, Nat.sub_self, decide_eq_true_eq, sz0, sz1, sz2, sz3, sz4, sz5, sz6, sz7, sz8, ok_int, ok_bl, ok_non, ok_tup, ok_lst, eqb_int, eqb_bl, at0, at1, at2, at3, at4, at5, beq_iff_eq, ite_true, ite_false, Bool.false_eq_true, if_true, if_false, true_and, and_true, false_and, Bool.not_true, Bool.not_false])
  refine fCons.go ?_
  (try simp only [fAsg, fPar, fPar2, fPar3, fIfS, fRet, fRetN, fDrop, fNil, fBreak, fCont, fAugN, fAugF, fApp, fRaise, mvL, moved, eVar, eVal, eOp2, eOp1, eTup, eLst, eNew, eIf, eAnd2, eOr2, eNot1, eFrz, asD, asB, eFld, eCall, eMake, eMeth, eSl, oNone, oSome, aNil, aCons, lNil, lCons, gNm, gNmS, gFd, gIx, gTp, gsNil, gsCons, tTru, tBool, tAnd2, tOr2, tNot1, tYesD, addM_i, addM_s, addM_t, addM_oo, addM_bo, addM_ob, addM_lo, addM_ol, addM_ll, subM_i, mulM_i, mulM_o, mulT_t, fdivM_i, modM_i, intAddM_i, cmpM_i, min2M_i, max2M_i, negM_i, absM_i, toIntM_i, isnM_any, isN, eqM_i, eqM_b, eqM_s, eqM_t, ixM_t, ixM_o, ixM_l, ixM_k, ixM_r, ixM_b, truM_b, truM_i, truM_n, truM_t, truM_o, lenM, sumM, sumA, tupM, listM, slM, lget, lgetR, lput, iRng1D, iRng2D, iSeq, itOf, eDnew, eDic, eDgt, dgtC, dgM, gDk, keyD, asD, neNilM, List.map_cons, List.map_nil, List.replicate_zero, List.replicate_succ, List.cons_append, List.nil_append, List.append_nil, List.getElem?_cons_succ, List.getElem?_cons_zero, List.set_cons_zero, List.set_cons_succ, List.length_cons, List.length_nil, Nat.reduceAdd, Nat.reduceSub, Nat.reduceLT, Nat.reduceLeDiff, Nat.sub_self, decide_eq_true_eq, sz0, sz1, sz2, sz3, sz4, sz5, sz6, sz7, sz8, ok_int, ok_bl, ok_non, ok_tup, ok_lst, eqb_int, eqb_bl, at0, at1, at2, at3, at4, at5, beq_iff_eq, ite_true, ite_false, Bool.false_eq_true, if_true, if_false, true_and, and_true, false_and, Bool.not_true, Bool.not_false])
  refine shout_ (by omega) ?_
  have et : tupI oc = .tup (oc.map D.int) := rfl
  rw [et]
  (try simp only [fAsg, fPar, fPar2, fPar3, fIfS, fRet, fRetN, fDrop, fNil, fBreak, fCont, fAugN, fAugF, fApp, fRaise, mvL, moved, eVar, eVal, eOp2, eOp1, eTup, eLst, eNew, eIf, eAnd2, eOr2, eNot1, eFrz, asD, asB, eFld, eCall, eMake, eMeth, eSl, oNone, oSome, aNil, aCons, lNil, lCons, gNm, gNmS, gFd, gIx, gTp, gsNil, gsCons, tTru, tBool, tAnd2, tOr2, tNot1, tYesD, addM_i, addM_s, addM_t, addM_oo, addM_bo, addM_ob, addM_lo, addM_ol, addM_ll, subM_i, mulM_i, mulM_o, mulT_t, fdivM_i, modM_i, intAddM_i, cmpM_i, min2M_i, max2M_i, negM_i, absM_i, toIntM_i, isnM_any, isN, eqM_i, eqM_b, eqM_s, eqM_t, ixM_t, ixM_o, ixM_l, ixM_k, ixM_r, ixM_b, truM_b, truM_i, truM_n, truM_t, truM_o, lenM, sumM, sumA, tupM, listM, slM, lget, lgetR, lput, iRng1D, iRng2D, iSeq, itOf, eDnew, eDic, eDgt, dgtC, dgM, gDk, keyD, asD, neNilM, List.map_cons, List.map_nil, List.replicate_zero, List.replicate_succ, List.cons_append, List.nil_append, List.append_nil, List.getElem?_cons_succ, List.getElem?_cons_zero, List.set_cons_zero, List.set_cons_succ, List.length_cons, List.length_nil, Nat.reduceAdd, Nat.reduceSub, Nat.reduceLT, Nat.reduceLeDiff, Nat.sub_self, decide_eq_true_eq, sz0, sz1, sz2, sz3, sz4, sz5, sz6, sz7, sz8, ok_int, ok_bl, ok_non, ok_tup, ok_lst, eqb_int, eqb_bl, at0, at1, at2, at3, at4, at5, beq_iff_eq, ite_true, ite_false, Bool.false_eq_true, if_true, if_false, true_and, and_true, false_and, Bool.not_true, Bool.not_false, List.length_map])
  refine ⟨sz (by omega), ?_⟩
  refine same_tup (l := 32 :: (oc.length : Int) :: oc) (fun x hx => ?_) (by simp; omega) ?_
  · rcases List.mem_cons.mp hx with z | hx
    · omega
    · rcases List.mem_cons.mp hx with z | hx
      · omega
      · have := o x hx; omega
  (try simp only [fAsg, fPar, fPar2, fPar3, fIfS, fRet, fRetN, fDrop, fNil, fBreak, fCont, fAugN, fAugF, fApp, fRaise, mvL, moved, eVar, eVal, eOp2, eOp1, eTup, eLst, eNew, eIf, eAnd2, eOr2, eNot1, eFrz, asD, asB, eFld, eCall, eMake, eMeth, eSl, oNone, oSome, aNil, aCons, lNil, lCons, gNm, gNmS, gFd, gIx, gTp, gsNil, gsCons, tTru, tBool, tAnd2, tOr2, tNot1, tYesD, addM_i, addM_s, addM_t, addM_oo, addM_bo, addM_ob, addM_lo, addM_ol, addM_ll, subM_i, mulM_i, mulM_o, mulT_t, fdivM_i, modM_i, intAddM_i, cmpM_i, min2M_i, max2M_i, negM_i, absM_i, toIntM_i, isnM_any, isN, eqM_i, eqM_b, eqM_s, eqM_t, ixM_t, ixM_o, ixM_l, ixM_k, ixM_r, ixM_b, truM_b, truM_i, truM_n, truM_t, truM_o, lenM, sumM, sumA, tupM, listM, slM, lget, lgetR, lput, iRng1D, iRng2D, iSeq, itOf, eDnew, eDic, eDgt, dgtC, dgM, gDk, keyD, asD, neNilM, List.map_cons, List.map_nil, List.replicate_zero, List.replicate_succ, List.cons_append, List.nil_append, List.append_nil, List.getElem?_cons_succ, List.getElem?_cons_zero, List.set_cons_zero, List.set_cons_succ, List.length_cons, List.length_nil, Nat.reduceAdd, Nat.reduceSub, Nat.reduceLT, Nat.reduceLeDiff, Nat.sub_self, decide_eq_true_eq, sz0, sz1, sz2, sz3, sz4, sz5, sz6, sz7, sz8, ok_int, ok_bl, ok_non, ok_tup, ok_lst, eqb_int, eqb_bl, at0, at1, at2, at3, at4, at5, beq_iff_eq, ite_true, ite_false, Bool.false_eq_true, if_true, if_false, true_and, and_true, false_and, Bool.not_true, Bool.not_false])
  refine fCons.go ?_
  (try simp only [fAsg, fPar, fPar2, fPar3, fIfS, fRet, fRetN, fDrop, fNil, fBreak, fCont, fAugN, fAugF, fApp, fRaise, mvL, moved, eVar, eVal, eOp2, eOp1, eTup, eLst, eNew, eIf, eAnd2, eOr2, eNot1, eFrz, asD, asB, eFld, eCall, eMake, eMeth, eSl, oNone, oSome, aNil, aCons, lNil, lCons, gNm, gNmS, gFd, gIx, gTp, gsNil, gsCons, tTru, tBool, tAnd2, tOr2, tNot1, tYesD, addM_i, addM_s, addM_t, addM_oo, addM_bo, addM_ob, addM_lo, addM_ol, addM_ll, subM_i, mulM_i, mulM_o, mulT_t, fdivM_i, modM_i, intAddM_i, cmpM_i, min2M_i, max2M_i, negM_i, absM_i, toIntM_i, isnM_any, isN, eqM_i, eqM_b, eqM_s, eqM_t, ixM_t, ixM_o, ixM_l, ixM_k, ixM_r, ixM_b, truM_b, truM_i, truM_n, truM_t, truM_o, lenM, sumM, sumA, tupM, listM, slM, lget, lgetR, lput, iRng1D, iRng2D, iSeq, itOf, eDnew, eDic, eDgt, dgtC, dgM, gDk, keyD, asD, neNilM, List.map_cons, List.map_nil, List.replicate_zero, List.replicate_succ, List.cons_append, List.nil_append, List.append_nil, List.getElem?_cons_succ, List.getElem?_cons_zero, List.set_cons_zero, List.set_cons_succ, List.length_cons, List.length_nil, Nat.reduceAdd, Nat.reduceSub, Nat.reduceLT, Nat.reduceLeDiff, Nat.sub_self, decide_eq_true_eq, sz0, sz1, sz2, sz3, sz4, sz5, sz6, sz7, sz8, ok_int, ok_bl, ok_non, ok_tup, ok_lst, eqb_int, eqb_bl, at0, at1, at2, at3, at4, at5, beq_iff_eq, ite_true, ite_false, Bool.false_eq_true, if_true, if_false, true_and, and_true, false_and, Bool.not_true, Bool.not_false, eLc_eq])
  refine take__ d (by decide) (by decide) fun k μ k0 k1 d _ => ?_
  (try simp only [fAsg, fPar, fPar2, fPar3, fIfS, fRet, fRetN, fDrop, fNil, fBreak, fCont, fAugN, fAugF, fApp, fRaise, mvL, moved, eVar, eVal, eOp2, eOp1, eTup, eLst, eNew, eIf, eAnd2, eOr2, eNot1, eFrz, asD, asB, eFld, eCall, eMake, eMeth, eSl, oNone, oSome, aNil, aCons, lNil, lCons, gNm, gNmS, gFd, gIx, gTp, gsNil, gsCons, tTru, tBool, tAnd2, tOr2, tNot1, tYesD, addM_i, addM_s, addM_t, addM_oo, addM_bo, addM_ob, addM_lo, addM_ol, addM_ll, subM_i, mulM_i, mulM_o, mulT_t, fdivM_i, modM_i, intAddM_i, cmpM_i, min2M_i, max2M_i, negM_i, absM_i, toIntM_i, isnM_any, isN, eqM_i, eqM_b, eqM_s, eqM_t, ixM_t, ixM_o, ixM_l, ixM_k, ixM_r, ixM_b, truM_b, truM_i, truM_n, truM_t, truM_o, lenM, sumM, sumA, tupM, listM, slM, lget, lgetR, lput, iRng1D, iRng2D, iSeq, itOf, eDnew, eDic, eDgt, dgtC, dgM, gDk, keyD, asD, neNilM, List.map_cons, List.map_nil, List.replicate_zero, List.replicate_succ, List.cons_append, List.nil_append, List.append_nil, List.getElem?_cons_succ, List.getElem?_cons_zero, List.set_cons_zero, List.set_cons_succ, List.length_cons, List.length_nil, Nat.reduceAdd, Nat.reduceSub, Nat.reduceLT, Nat.reduceLeDiff, Nat.sub_self, decide_eq_true_eq, sz0, sz1, sz2, sz3, sz4, sz5, sz6, sz7, sz8, ok_int, ok_bl, ok_non, ok_tup, ok_lst, eqb_int, eqb_bl, at0, at1, at2, at3, at4, at5, beq_iff_eq, ite_true, ite_false, Bool.false_eq_true, if_true, if_false, true_and, and_true, false_and, Bool.not_true, Bool.not_false])
  refine ⟨⟨by omega, by omega⟩, ?_⟩
  refine lc_rngN (fun i acc μ' => ∃ f : List (List Int), acc = f.map tupI ∧ f.length = i ∧ (∀ l ∈ f, Oc l ∧ Valid l ∧ l.length ≤ 22) ∧ Draw μ' 0) (sz (by omega)) ⟨[], rfl, rfl, fun l hl => by simp at hl, d⟩ (fun i acc μ' ⟨l, e, h, _⟩ => by rw [e, List.length_map, h]) (fun i acc μ' lt ⟨f, e, h, q, d⟩ => ?_) (fun acc μ ⟨f, e, h, q, d⟩ ad => ?_)
  · refine ⟨_, rfl, ?_⟩
    (try simp only [fAsg, fPar, fPar2, fPar3, fIfS, fRet, fRetN, fDrop, fNil, fBreak, fCont, fAugN, fAugF, fApp, fRaise, mvL, moved, eVar, eVal, eOp2, eOp1, eTup, eLst, eNew, eIf, eAnd2, eOr2, eNot1, eFrz, asD, asB, eFld, eCall, eMake, eMeth, eSl, oNone, oSome, aNil, aCons, lNil, lCons, gNm, gNmS, gFd, gIx, gTp, gsNil, gsCons, tTru, tBool, tAnd2, tOr2, tNot1, tYesD, addM_i, addM_s, addM_t, addM_oo, addM_bo, addM_ob, addM_lo, addM_ol, addM_ll, subM_i, mulM_i, mulM_o, mulT_t, fdivM_i, modM_i, intAddM_i, cmpM_i, min2M_i, max2M_i, negM_i, absM_i, toIntM_i, isnM_any, isN, eqM_i, eqM_b, eqM_s, eqM_t, ixM_t, ixM_o, ixM_l, ixM_k, ixM_r, ixM_b, truM_b, truM_i, truM_n, truM_t, truM_o, lenM, sumM, sumA, tupM, listM, slM, lget, lgetR, lput, iRng1D, iRng2D, iSeq, itOf, eDnew, eDic, eDgt, dgtC, dgM, gDk, keyD, asD, neNilM, List.map_cons, List.map_nil, List.replicate_zero, List.replicate_succ, List.cons_append, List.nil_append, List.append_nil, List.getElem?_cons_succ, List.getElem?_cons_zero, List.set_cons_zero, List.set_cons_succ, List.length_cons, List.length_nil, Nat.reduceAdd, Nat.reduceSub, Nat.reduceLT, Nat.reduceLeDiff, Nat.sub_self, decide_eq_true_eq, sz0, sz1, sz2, sz3, sz4, sz5, sz6, sz7, sz8, ok_int, ok_bl, ok_non, ok_tup, ok_lst, eqb_int, eqb_bl, at0, at1, at2, at3, at4, at5, beq_iff_eq, ite_true, ite_false, Bool.false_eq_true, if_true, if_false, true_and, and_true, false_and, Bool.not_true, Bool.not_false, wipeD])
    refine frame_ d fun l μ2 lo lv ll d2 => ?_
    (try simp only [fAsg, fPar, fPar2, fPar3, fIfS, fRet, fRetN, fDrop, fNil, fBreak, fCont, fAugN, fAugF, fApp, fRaise, mvL, moved, eVar, eVal, eOp2, eOp1, eTup, eLst, eNew, eIf, eAnd2, eOr2, eNot1, eFrz, asD, asB, eFld, eCall, eMake, eMeth, eSl, oNone, oSome, aNil, aCons, lNil, lCons, gNm, gNmS, gFd, gIx, gTp, gsNil, gsCons, tTru, tBool, tAnd2, tOr2, tNot1, tYesD, addM_i, addM_s, addM_t, addM_oo, addM_bo, addM_ob, addM_lo, addM_ol, addM_ll, subM_i, mulM_i, mulM_o, mulT_t, fdivM_i, modM_i, intAddM_i, cmpM_i, min2M_i, max2M_i, negM_i, absM_i, toIntM_i, isnM_any, isN, eqM_i, eqM_b, eqM_s, eqM_t, ixM_t, ixM_o, ixM_l, ixM_k, ixM_r, ixM_b, truM_b, truM_i, truM_n, truM_t, truM_o, lenM, sumM, sumA, tupM, listM, slM, lget, lgetR, lput, iRng1D, iRng2D, iSeq, itOf, eDnew, eDic, eDgt, dgtC, dgM, gDk, keyD, asD, neNilM, List.map_cons, List.map_nil, List.replicate_zero, List.replicate_succ, List.cons_append, List.nil_append, List.append_nil, List.getElem?_cons_succ, List.getElem?_cons_zero, List.set_cons_zero, List.set_cons_succ, List.length_cons, List.length_nil, Nat.reduceAdd, Nat.reduceSub, Nat.reduceLT, Nat.reduceLeDiff, Nat.sub_self, decide_eq_true_eq, sz0, sz1, sz2, sz3, sz4, sz5, sz6, sz7, sz8, ok_int, ok_bl, ok_non, ok_tup, ok_lst, eqb_int, eqb_bl, at0, at1, at2, at3, at4, at5, beq_iff_eq, ite_true, ite_false, Bool.false_eq_true, if_true, if_false, true_and, and_true, false_and, Bool.not_true, Bool.not_false])
    refine ⟨f ++ [l], by rw [e, List.map_append]; rfl, by rw [List.length_append, h]; rfl, fun y hy => ?_, d2⟩
    rcases List.mem_append.mp hy with z | z
    · exact q y z
    · rw [List.mem_singleton.mp z]; exact ⟨lo, lv, ll⟩
  subst e
  (try simp only [fAsg, fPar, fPar2, fPar3, fIfS, fRet, fRetN, fDrop, fNil, fBreak, fCont, fAugN, fAugF, fApp, fRaise, mvL, moved, eVar, eVal, eOp2, eOp1, eTup, eLst, eNew, eIf, eAnd2, eOr2, eNot1, eFrz, asD, asB, eFld, eCall, eMake, eMeth, eSl, oNone, oSome, aNil, aCons, lNil, lCons, gNm, gNmS, gFd, gIx, gTp, gsNil, gsCons, tTru, tBool, tAnd2, tOr2, tNot1, tYesD, addM_i, addM_s, addM_t, addM_oo, addM_bo, addM_ob, addM_lo, addM_ol, addM_ll, subM_i, mulM_i, mulM_o, mulT_t, fdivM_i, modM_i, intAddM_i, cmpM_i, min2M_i, max2M_i, negM_i, absM_i, toIntM_i, isnM_any, isN, eqM_i, eqM_b, eqM_s, eqM_t, ixM_t, ixM_o, ixM_l, ixM_k, ixM_r, ixM_b, truM_b, truM_i, truM_n, truM_t, truM_o, lenM, sumM, sumA, tupM, listM, slM, lget, lgetR, lput, iRng1D, iRng2D, iSeq, itOf, eDnew, eDic, eDgt, dgtC, dgM, gDk, keyD, asD, neNilM, List.map_cons, List.map_nil, List.replicate_zero, List.replicate_succ, List.cons_append, List.nil_append, List.append_nil, List.getElem?_cons_succ, List.getElem?_cons_zero, List.set_cons_zero, List.set_cons_succ, List.length_cons, List.length_nil, Nat.reduceAdd, Nat.reduceSub, Nat.reduceLT, Nat.reduceLeDiff, Nat.sub_self, decide_eq_true_eq, sz0, sz1, sz2, sz3, sz4, sz5, sz6, sz7, sz8, ok_int, ok_bl, ok_non, ok_tup, ok_lst, eqb_int, eqb_bl, at0, at1, at2, at3, at4, at5, beq_iff_eq, ite_true, ite_false, Bool.false_eq_true, if_true, if_false, true_and, and_true, false_and, Bool.not_true, Bool.not_false])
  refine fCons.go ?_
  (try simp only [fAsg, fPar, fPar2, fPar3, fIfS, fRet, fRetN, fDrop, fNil, fBreak, fCont, fAugN, fAugF, fApp, fRaise, mvL, moved, eVar, eVal, eOp2, eOp1, eTup, eLst, eNew, eIf, eAnd2, eOr2, eNot1, eFrz, asD, asB, eFld, eCall, eMake, eMeth, eSl, oNone, oSome, aNil, aCons, lNil, lCons, gNm, gNmS, gFd, gIx, gTp, gsNil, gsCons, tTru, tBool, tAnd2, tOr2, tNot1, tYesD, addM_i, addM_s, addM_t, addM_oo, addM_bo, addM_ob, addM_lo, addM_ol, addM_ll, subM_i, mulM_i, mulM_o, mulT_t, fdivM_i, modM_i, intAddM_i, cmpM_i, min2M_i, max2M_i, negM_i, absM_i, toIntM_i, isnM_any, isN, eqM_i, eqM_b, eqM_s, eqM_t, ixM_t, ixM_o, ixM_l, ixM_k, ixM_r, ixM_b, truM_b, truM_i, truM_n, truM_t, truM_o, lenM, sumM, sumA, tupM, listM, slM, lget, lgetR, lput, iRng1D, iRng2D, iSeq, itOf, eDnew, eDic, eDgt, dgtC, dgM, gDk, keyD, asD, neNilM, List.map_cons, List.map_nil, List.replicate_zero, List.replicate_succ, List.cons_append, List.nil_append, List.append_nil, List.getElem?_cons_succ, List.getElem?_cons_zero, List.set_cons_zero, List.set_cons_succ, List.length_cons, List.length_nil, Nat.reduceAdd, Nat.reduceSub, Nat.reduceLT, Nat.reduceLeDiff, Nat.sub_self, decide_eq_true_eq, sz0, sz1, sz2, sz3, sz4, sz5, sz6, sz7, sz8, ok_int, ok_bl, ok_non, ok_tup, ok_lst, eqb_int, eqb_bl, at0, at1, at2, at3, at4, at5, beq_iff_eq, ite_true, ite_false, Bool.false_eq_true, if_true, if_false, true_and, and_true, false_and, Bool.not_true, Bool.not_false])
  have fu := flat_up fun l hl => (q l hl).2.2
  have fg := flat_ge fun l hl => (q l hl).2.1
  have fo := flat_oc fun l hl => (q l hl).1
  have pv := pm_valid (n := f.flatten.length + 1) (f := []) (fun l hl => (q l hl).2.1) (by omega)
  refine fCons.go (whole_ (f := f) (by omega) fun z6 => ?_)
  refine fCons.go ?_
  (try simp only [fAsg, fPar, fPar2, fPar3, fIfS, fRet, fRetN, fDrop, fNil, fBreak, fCont, fAugN, fAugF, fApp, fRaise, mvL, moved, eVar, eVal, eOp2, eOp1, eTup, eLst, eNew, eIf, eAnd2, eOr2, eNot1, eFrz, asD, asB, eFld, eCall, eMake, eMeth, eSl, oNone, oSome, aNil, aCons, lNil, lCons, gNm, gNmS, gFd, gIx, gTp, gsNil, gsCons, tTru, tBool, tAnd2, tOr2, tNot1, tYesD, addM_i, addM_s, addM_t, addM_oo, addM_bo, addM_ob, addM_lo, addM_ol, addM_ll, subM_i, mulM_i, mulM_o, mulT_t, fdivM_i, modM_i, intAddM_i, cmpM_i, min2M_i, max2M_i, negM_i, absM_i, toIntM_i, isnM_any, isN, eqM_i, eqM_b, eqM_s, eqM_t, ixM_t, ixM_o, ixM_l, ixM_k, ixM_r, ixM_b, truM_b, truM_i, truM_n, truM_t, truM_o, lenM, sumM, sumA, tupM, listM, slM, lget, lgetR, lput, iRng1D, iRng2D, iSeq, itOf, eDnew, eDic, eDgt, dgtC, dgM, gDk, keyD, asD, neNilM, List.map_cons, List.map_nil, List.replicate_zero, List.replicate_succ, List.cons_append, List.nil_append, List.append_nil, List.getElem?_cons_succ, List.getElem?_cons_zero, List.set_cons_zero, List.set_cons_succ, List.length_cons, List.length_nil, Nat.reduceAdd, Nat.reduceSub, Nat.reduceLT, Nat.reduceLeDiff, Nat.sub_self, decide_eq_true_eq, sz0, sz1, sz2, sz3, sz4, sz5, sz6, sz7, sz8, ok_int, ok_bl, ok_non, ok_tup, ok_lst, eqb_int, eqb_bl, at0, at1, at2, at3, at4, at5, beq_iff_eq, ite_true, ite_false, Bool.false_eq_true, if_true, if_false, true_and, and_true, false_and, Bool.not_true, Bool.not_false, Sl14, sv])
  refine parted_ T fo (by omega) (fun z => ?_) fun f' r z => ?_
  · rw [pv] at z; cases z
  rw [pv] at z
  cases z
  (try simp only [fAsg, fPar, fPar2, fPar3, fIfS, fRet, fRetN, fDrop, fNil, fBreak, fCont, fAugN, fAugF, fApp, fRaise, mvL, moved, eVar, eVal, eOp2, eOp1, eTup, eLst, eNew, eIf, eAnd2, eOr2, eNot1, eFrz, asD, asB, eFld, eCall, eMake, eMeth, eSl, oNone, oSome, aNil, aCons, lNil, lCons, gNm, gNmS, gFd, gIx, gTp, gsNil, gsCons, tTru, tBool, tAnd2, tOr2, tNot1, tYesD, addM_i, addM_s, addM_t, addM_oo, addM_bo, addM_ob, addM_lo, addM_ol, addM_ll, subM_i, mulM_i, mulM_o, mulT_t, fdivM_i, modM_i, intAddM_i, cmpM_i, min2M_i, max2M_i, negM_i, absM_i, toIntM_i, isnM_any, isN, eqM_i, eqM_b, eqM_s, eqM_t, ixM_t, ixM_o, ixM_l, ixM_k, ixM_r, ixM_b, truM_b, truM_i, truM_n, truM_t, truM_o, lenM, sumM, sumA, tupM, listM, slM, lget, lgetR, lput, iRng1D, iRng2D, iSeq, itOf, eDnew, eDic, eDgt, dgtC, dgM, gDk, keyD, asD, neNilM, List.map_cons, List.map_nil, List.replicate_zero, List.replicate_succ, List.cons_append, List.nil_append, List.append_nil, List.getElem?_cons_succ, List.getElem?_cons_zero, List.set_cons_zero, List.set_cons_succ, List.length_cons, List.length_nil, Nat.reduceAdd, Nat.reduceSub, Nat.reduceLT, Nat.reduceLeDiff, Nat.sub_self, decide_eq_true_eq, sz0, sz1, sz2, sz3, sz4, sz5, sz6, sz7, sz8, ok_int, ok_bl, ok_non, ok_tup, ok_lst, eqb_int, eqb_bl, at0, at1, at2, at3, at4, at5, beq_iff_eq, ite_true, ite_false, Bool.false_eq_true, if_true, if_false, true_and, and_true, false_and, Bool.not_true, Bool.not_false])
  refine same_res (f := f) (r := []) (by rw [List.append_nil]; exact fo) (by omega) (by rw [List.append_nil]; omega) ?_
  (try simp only [fAsg, fPar, fPar2, fPar3, fIfS, fRet, fRetN, fDrop, fNil, fBreak, fCont, fAugN, fAugF, fApp, fRaise, mvL, moved, eVar, eVal, eOp2, eOp1, eTup, eLst, eNew, eIf, eAnd2, eOr2, eNot1, eFrz, asD, asB, eFld, eCall, eMake, eMeth, eSl, oNone, oSome, aNil, aCons, lNil, lCons, gNm, gNmS, gFd, gIx, gTp, gsNil, gsCons, tTru, tBool, tAnd2, tOr2, tNot1, tYesD, addM_i, addM_s, addM_t, addM_oo, addM_bo, addM_ob, addM_lo, addM_ol, addM_ll, subM_i, mulM_i, mulM_o, mulT_t, fdivM_i, modM_i, intAddM_i, cmpM_i, min2M_i, max2M_i, negM_i, absM_i, toIntM_i, isnM_any, isN, eqM_i, eqM_b, eqM_s, eqM_t, ixM_t, ixM_o, ixM_l, ixM_k, ixM_r, ixM_b, truM_b, truM_i, truM_n, truM_t, truM_o, lenM, sumM, sumA, tupM, listM, slM, lget, lgetR, lput, iRng1D, iRng2D, iSeq, itOf, eDnew, eDic, eDgt, dgtC, dgM, gDk, keyD, asD, neNilM, List.map_cons, List.map_nil, List.replicate_zero, List.replicate_succ, List.cons_append, List.nil_append, List.append_nil, List.getElem?_cons_succ, List.getElem?_cons_zero, List.set_cons_zero, List.set_cons_succ, List.length_cons, List.length_nil, Nat.reduceAdd, Nat.reduceSub, Nat.reduceLT, Nat.reduceLeDiff, Nat.sub_self, decide_eq_true_eq, sz0, sz1, sz2, sz3, sz4, sz5, sz6, sz7, sz8, ok_int, ok_bl, ok_non, ok_tup, ok_lst, eqb_int, eqb_bl, at0, at1, at2, at3, at4, at5, beq_iff_eq, ite_true, ite_false, Bool.false_eq_true, if_true, if_false, true_and, and_true, false_and, Bool.not_true, Bool.not_false])
  refine frameo_ (l := oc) (by omega) ?_
  (try simp only [fAsg, fPar, fPar2, fPar3, fIfS, fRet, fRetN, fDrop, fNil, fBreak, fCont, fAugN, fAugF, fApp, fRaise, mvL, moved, eVar, eVal, eOp2, eOp1, eTup, eLst, eNew, eIf, eAnd2, eOr2, eNot1, eFrz, asD, asB, eFld, eCall, eMake, eMeth, eSl, oNone, oSome, aNil, aCons, lNil, lCons, gNm, gNmS, gFd, gIx, gTp, gsNil, gsCons, tTru, tBool, tAnd2, tOr2, tNot1, tYesD, addM_i, addM_s, addM_t, addM_oo, addM_bo, addM_ob, addM_lo, addM_ol, addM_ll, subM_i, mulM_i, mulM_o, mulT_t, fdivM_i, modM_i, intAddM_i, cmpM_i, min2M_i, max2M_i, negM_i, absM_i, toIntM_i, isnM_any, isN, eqM_i, eqM_b, eqM_s, eqM_t, ixM_t, ixM_o, ixM_l, ixM_k, ixM_r, ixM_b, truM_b, truM_i, truM_n, truM_t, truM_o, lenM, sumM, sumA, tupM, listM, slM, lget, lgetR, lput, iRng1D, iRng2D, iSeq, itOf, eDnew, eDic, eDgt, dgtC, dgM, gDk, keyD, asD, neNilM, List.map_cons, List.map_nil, List.replicate_zero, List.replicate_succ, List.cons_append, List.nil_append, List.append_nil, List.getElem?_cons_succ, List.getElem?_cons_zero, List.set_cons_zero, List.set_cons_succ, List.length_cons, List.length_nil, Nat.reduceAdd, Nat.reduceSub, Nat.reduceLT, Nat.reduceLeDiff, Nat.sub_self, decide_eq_true_eq, sz0, sz1, sz2, sz3, sz4, sz5, sz6, sz7, sz8, ok_int, ok_bl, ok_non, ok_tup, ok_lst, eqb_int, eqb_bl, at0, at1, at2, at3, at4, at5, beq_iff_eq, ite_true, ite_false, Bool.false_eq_true, if_true, if_false, true_and, and_true, false_and, Bool.not_true, Bool.not_false, List.length_map])
  refine ⟨sz (by omega), ?_⟩
  have e8 : D.tup (D.int 8 :: D.int (oc.length : Int) :: oc.map D.int) = tupI (8 :: (oc.length : Int) :: oc) := rfl
  rw [e8, eqM_same (d := tupI (8 :: (oc.length : Int) :: oc)) (okI (8 :: (oc.length : Int) :: oc) 63)]
  (try simp only [fAsg, fPar, fPar2, fPar3, fIfS, fRet, fRetN, fDrop, fNil, fBreak, fCont, fAugN, fAugF, fApp, fRaise, mvL, moved, eVar, eVal, eOp2, eOp1, eTup, eLst, eNew, eIf, eAnd2, eOr2, eNot1, eFrz, asD, asB, eFld, eCall, eMake, eMeth, eSl, oNone, oSome, aNil, aCons, lNil, lCons, gNm, gNmS, gFd, gIx, gTp, gsNil, gsCons, tTru, tBool, tAnd2, tOr2, tNot1, tYesD, addM_i, addM_s, addM_t, addM_oo, addM_bo, addM_ob, addM_lo, addM_ol, addM_ll, subM_i, mulM_i, mulM_o, mulT_t, fdivM_i, modM_i, intAddM_i, cmpM_i, min2M_i, max2M_i, negM_i, absM_i, toIntM_i, isnM_any, isN, eqM_i, eqM_b, eqM_s, eqM_t, ixM_t, ixM_o, ixM_l, ixM_k, ixM_r, ixM_b, truM_b, truM_i, truM_n, truM_t, truM_o, lenM, sumM, sumA, tupM, listM, slM, lget, lgetR, lput, iRng1D, iRng2D, iSeq, itOf, eDnew, eDic, eDgt, dgtC, dgM, gDk, keyD, asD, neNilM, List.map_cons, List.map_nil, List.replicate_zero, List.replicate_succ, List.cons_append, List.nil_append, List.append_nil, List.getElem?_cons_succ, List.getElem?_cons_zero, List.set_cons_zero, List.set_cons_succ, List.length_cons, List.length_nil, Nat.reduceAdd, Nat.reduceSub, Nat.reduceLT, Nat.reduceLeDiff, Nat.sub_self, decide_eq_true_eq, sz0, sz1, sz2, sz3, sz4, sz5, sz6, sz7, sz8, ok_int, ok_bl, ok_non, ok_tup, ok_lst, eqb_int, eqb_bl, at0, at1, at2, at3, at4, at5, beq_iff_eq, ite_true, ite_false, Bool.false_eq_true, if_true, if_false, true_and, and_true, false_and, Bool.not_true, Bool.not_false])
  refine spoils_ T fo (by omega) ⟨_, _, _, _, _, _, _, _, rfl, d⟩ fun δ μ q4 => ?_
  obtain ⟨z6, z7, z8, z9, z10, z11, z12, z13, rfl, d⟩ := q4
  exact ⟨_, _, _, _, _, _, _, _, _, _, _, _, rfl, d⟩
theorem den (K : PySem.W.Frag) (mg : Str → Option Value) (a : Ad) (T : Tx K mg a) (zs : List Int) (hz : zs.length ≤ 63) (_ : ∀ z ∈ zs, Builtin.Int.intBits z ≤ 1048576) : LawDen (d_law K a) zs := by
  refine ⟨rfl, fCons.go ?_⟩
  (try simp only [fAsg, fPar, fPar2, fPar3, fIfS, fRet, fRetN, fDrop, fNil, fBreak, fCont, fAugN, fAugF, fApp, fRaise, mvL, moved, eVar, eVal, eOp2, eOp1, eTup, eLst, eNew, eIf, eAnd2, eOr2, eNot1, eFrz, asD, asB, eFld, eCall, eMake, eMeth, eSl, oNone, oSome, aNil, aCons, lNil, lCons, gNm, gNmS, gFd, gIx, gTp, gsNil, gsCons, tTru, tBool, tAnd2, tOr2, tNot1, tYesD, addM_i, addM_s, addM_t, addM_oo, addM_bo, addM_ob, addM_lo, addM_ol, addM_ll, subM_i, mulM_i, mulM_o, mulT_t, fdivM_i, modM_i, intAddM_i, cmpM_i, min2M_i, max2M_i, negM_i, absM_i, toIntM_i, isnM_any, isN, eqM_i, eqM_b, eqM_s, eqM_t, ixM_t, ixM_o, ixM_l, ixM_k, ixM_r, ixM_b, truM_b, truM_i, truM_n, truM_t, truM_o, lenM, sumM, sumA, tupM, listM, slM, lget, lgetR, lput, iRng1D, iRng2D, iSeq, itOf, eDnew, eDic, eDgt, dgtC, dgM, gDk, keyD, asD, neNilM, List.map_cons, List.map_nil, List.replicate_zero, List.replicate_succ, List.cons_append, List.nil_append, List.append_nil, List.getElem?_cons_succ, List.getElem?_cons_zero, List.set_cons_zero, List.set_cons_succ, List.length_cons, List.length_nil, Nat.reduceAdd, Nat.reduceSub, Nat.reduceLT, Nat.reduceLeDiff, Nat.sub_self, decide_eq_true_eq, sz0, sz1, sz2, sz3, sz4, sz5, sz6, sz7, sz8, ok_int, ok_bl, ok_non, ok_tup, ok_lst, eqb_int, eqb_bl, at0, at1, at2, at3, at4, at5, beq_iff_eq, ite_true, ite_false, Bool.false_eq_true, if_true, if_false, true_and, and_true, false_and, Bool.not_true, Bool.not_false])
  refine draw_ (by omega) fun μ hd _ _ => ?_
  refine fCons.go ?_
  refine turns_ T ⟨_, _, _, _, _, _, _, _, _, _, _, _, rfl, hd⟩ fun δ' μ' q => ?_
  obtain ⟨z2, z3, z4, z5, z6, z7, z8, z9, z10, z11, z12, z13, rfl, d⟩ := q
  (try simp only [fAsg, fPar, fPar2, fPar3, fIfS, fRet, fRetN, fDrop, fNil, fBreak, fCont, fAugN, fAugF, fApp, fRaise, mvL, moved, eVar, eVal, eOp2, eOp1, eTup, eLst, eNew, eIf, eAnd2, eOr2, eNot1, eFrz, asD, asB, eFld, eCall, eMake, eMeth, eSl, oNone, oSome, aNil, aCons, lNil, lCons, gNm, gNmS, gFd, gIx, gTp, gsNil, gsCons, tTru, tBool, tAnd2, tOr2, tNot1, tYesD, addM_i, addM_s, addM_t, addM_oo, addM_bo, addM_ob, addM_lo, addM_ol, addM_ll, subM_i, mulM_i, mulM_o, mulT_t, fdivM_i, modM_i, intAddM_i, cmpM_i, min2M_i, max2M_i, negM_i, absM_i, toIntM_i, isnM_any, isN, eqM_i, eqM_b, eqM_s, eqM_t, ixM_t, ixM_o, ixM_l, ixM_k, ixM_r, ixM_b, truM_b, truM_i, truM_n, truM_t, truM_o, lenM, sumM, sumA, tupM, listM, slM, lget, lgetR, lput, iRng1D, iRng2D, iSeq, itOf, eDnew, eDic, eDgt, dgtC, dgM, gDk, keyD, asD, neNilM, List.map_cons, List.map_nil, List.replicate_zero, List.replicate_succ, List.cons_append, List.nil_append, List.append_nil, List.getElem?_cons_succ, List.getElem?_cons_zero, List.set_cons_zero, List.set_cons_succ, List.length_cons, List.length_nil, Nat.reduceAdd, Nat.reduceSub, Nat.reduceLT, Nat.reduceLeDiff, Nat.sub_self, decide_eq_true_eq, sz0, sz1, sz2, sz3, sz4, sz5, sz6, sz7, sz8, ok_int, ok_bl, ok_non, ok_tup, ok_lst, eqb_int, eqb_bl, at0, at1, at2, at3, at4, at5, beq_iff_eq, ite_true, ite_false, Bool.false_eq_true, if_true, if_false, true_and, and_true, false_and, Bool.not_true, Bool.not_false, Sl14])
end
end K70

set_option maxRecDepth 100000 in
set_option maxHeartbeats 0 in
open PySem PySem.W PyProof.Rows in
theorem PySem.Challenge.cw_nothingtwice_k70_shouts_on_the_wire_holds : PySem.Challenge.rw_nothingtwice_k70_shouts_on_the_wire.Holds := by
  w_on; o_law; k_head; (case hw => w_witness2)
  k_fill
  refine' NT.nt_walkA K70.d_law ⟨_, _, _, _, _, _, _, _, _, _, _, _, _, _, _⟩ (l := PySem.Challenge.rw_nothingtwice_k70_shouts_on_the_wire) (n := 63) (k := 6) rfl (by decide) rfl ⟨rfl, by decide, by decide⟩ (fun w h Y => PySem.W.kIn_of Y) ?F
  case F =>
    intro w mg fa h KX G hmg
    refine' K70.fin K70.den KX G hmg ?n_abs ?n_int ?n_len ?n_range ?n_repr ?n_super ?n_tuple ?a_BadForm ?a_KINDS ?ut_KINDS ?uz_KINDS ?uv_KINDS ?a_frame_octets ?l_frame_octets ?c_frame_octets ?k_frame_octets ?a_frame_length ?l_frame_length ?c_frame_length ?k_frame_length ?a_shout_octets ?l_shout_octets ?c_shout_octets ?k_shout_octets ?a_whole_length ?l_whole_length ?c_whole_length ?k_whole_length ?a_parted_frames ?l_parted_frames ?c_parted_frames ?k_parted_frames ?a_law_draw ?l_law_draw ?c_law_draw ?k_law_draw ?a_law_take ?l_law_take ?c_law_take ?k_law_take ?a_law_same ?l_law_same ?c_law_same ?k_law_same ?a_law_octets ?l_law_octets ?c_law_octets ?k_law_octets ?a_law_frame ?l_law_frame ?c_law_frame ?k_law_frame ?a_law_parted ?l_law_parted ?c_law_parted ?k_law_parted ?a_law_told ?l_law_told ?c_law_told ?k_law_told ?a_law ?l_law ?c_law ?k_law ?k_BadForm ?b_BadForm ?t_BadForm ?ic_BadForm ?s_BadForm_BadForm ?zi_BadForm ?zl_BadForm ?zc_BadForm ?zt_BadForm ?zd_BadForm ?zv_BadForm ?zf_BadFormx ?ze_BadForm ?zo_BadForm ?zs_BadForm ?zw_BadForm ?zm_BadForm ?zp_BadForm ?zn_BadForm ?zk_BadForm ?zb_BadForm ?za_BadForm ?zg_BadForm ?zh_BadForm ?zy_BadForm ?v_HEARD ?v_MAX_STREAMS ?v_SHOUT
    (case n_abs => k_is); (case n_int => k_is); (case n_len => k_is); (case n_range => k_is); (case n_repr => k_is); (case n_super => k_is); (case n_tuple => k_is); (case a_BadForm => k_is)
    (case a_KINDS => k_is); (case ut_KINDS => k_is); (case uz_KINDS => decide); (case uv_KINDS => exact .cons ⟨_, rfl⟩ (.cons ⟨_, rfl⟩ (.cons ⟨_, rfl⟩ (.cons ⟨_, rfl⟩ (.nil))))); (case a_frame_octets => k_is); (case l_frame_octets => k_is); (case c_frame_octets => k_is); (case k_frame_octets => k_is)
    (case a_frame_length => k_is); (case l_frame_length => k_is); (case c_frame_length => k_is); (case k_frame_length => k_is); (case a_shout_octets => k_is); (case l_shout_octets => k_is); (case c_shout_octets => k_is); (case k_shout_octets => k_is)
    (case a_whole_length => k_is); (case l_whole_length => k_is); (case c_whole_length => k_is); (case k_whole_length => k_is); (case a_parted_frames => k_is); (case l_parted_frames => k_is); (case c_parted_frames => k_is); (case k_parted_frames => k_is)
    (case a_law_draw => k_is); (case l_law_draw => k_is); (case c_law_draw => k_is); (case k_law_draw => k_is); (case a_law_take => k_is); (case l_law_take => k_is); (case c_law_take => k_is); (case k_law_take => k_is)
    (case a_law_same => k_is); (case l_law_same => k_is); (case c_law_same => k_is); (case k_law_same => k_is); (case a_law_octets => k_is); (case l_law_octets => k_is); (case c_law_octets => k_is); (case k_law_octets => k_is)
    (case a_law_frame => k_is); (case l_law_frame => k_is); (case c_law_frame => k_is); (case k_law_frame => k_is); (case a_law_parted => k_is); (case l_law_parted => k_is); (case c_law_parted => k_is); (case k_law_parted => k_is)
    (case a_law_told => k_is); (case l_law_told => k_is); (case c_law_told => k_is); (case k_law_told => k_is); (case a_law => k_is); (case l_law => k_is); (case c_law => k_is); (case k_law => k_is)
    (case k_BadForm => k_is); (case b_BadForm => k_is); (case t_BadForm => k_is); (case ic_BadForm => k_is); (case s_BadForm_BadForm => first | rfl | k_is); (case zi_BadForm => k_is); (case zl_BadForm => k_is); (case zc_BadForm => k_is)
    (case zt_BadForm => k_is); (case zd_BadForm => k_is); (case zv_BadForm => rfl); (case zf_BadFormx => first | rfl | decide +kernel); (case ze_BadForm => k_is); (case zo_BadForm => k_is); (case zs_BadForm => ks_is); (case zw_BadForm => k_is)
    (case zm_BadForm => k_is); (case zp_BadForm => first | rfl | decide +kernel); (case zn_BadForm => k_is); (case zk_BadForm => k_is); (case zb_BadForm => rfl); (case za_BadForm => k_is); (case zg_BadForm => k_is); (case zh_BadForm => k_is)
    (case zy_BadForm => k_is); (case v_HEARD => k_is); (case v_MAX_STREAMS => k_is); (case v_SHOUT => k_is)

