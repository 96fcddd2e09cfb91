import PyProof.Rows.All
import Wide.All
import OpenK.AllK
import Wide.FinOn
import HandS.ForMost
import HandS.ForExc
import HandS.Conv
import HandS.IsInst
import HandS.Style
import HandS.Wide
import HandS.SortInts
import HandS.TupAny
import HandS.ExcOwn
import HandS.TryOnly
import HandS.EndBits
import HandS.RaiseMore
import HandS.SortRule
import HandS.TupSets
import PyProof.ReprLen
import PySem.Challenge.RW_nothingtwice_k68_what_must_be_through_fi
set_option Elab.async false
set_option linter.all false
set_option maxRecDepth 100000
/-! NT: tree values over the hand layer. Values D (trees), places P, a store of numbered objects MO; what they stand for in the abstract heap. -/
namespace NT
open PySem PySem.Spec PyProof.Rows L2

inductive D where
  | non | bl (b : Bool) | int (i : Int) | str (s : Str)
  | tup (ds : List D) | lst (ds : List D) | kls (ds : List D) | ref (n : Nat)
/-- a place of a list that one name or one field holds -/
inductive Pl where
  | slot (i : Nat) | fld (n : Nat) (f : Str)
/-- what a slot or a field holds, or an expression gives: a value; a list that stands there alone; such a list of a place, told by the place -/
inductive P where
  | val (d : D) | own (a : Addr) (ds : List D) | bor (a : Addr) (pl : Pl)
/-- an object of the store -/
inductive MO where
  | lst (ds : List D) | dic (kvs : List (Key × D)) | dit (kvs : List (List Key × D)) | lkd (kvs : List (Key × D)) | ins (C : Addr) (fs : List (Str × P))
/-- an exception: its class, its fields -/
structure EV where
  cls : Addr
  fs : List (Str × D)

section
variable (K : PySem.W.Frag)
/-- a list that is never written, the module's own among them -/
def SqF (H : Hp) (a : Addr) (xs : List V) : Prop :=
  (∃ o, H a = some (.frz o (.lst xs))) ∨ ∃ (o : Obj) (its : Array Value) (n : Nat), K.lookup a = some o ∧ o.cls = .type "list" ∧ o.dict = none ∧ o.data = .seq its n ∧ its.size ≤ sizeLine ∧ Vals xs its.toList
theorem SqF.seq {K : PySem.W.Frag} {H : Hp} {a : Addr} {xs : List V} (h : SqF K H a xs) : SqL K H a xs := by
  rcases h with ⟨o, h⟩ | h
  · exact .inl (.inr ⟨o, h⟩)
  · exact .inr h
/-- a tuple -/
def SqU (H : Hp) (a : Addr) (xs : List V) : Prop :=
  H a = some (.tup xs) ∨ ∃ (o : Obj) (its : Array Value) (n : Nat), K.lookup a = some o ∧ o.cls = .type "tuple" ∧ o.data = .seq its n ∧ its.size ≤ sizeLine ∧ Vals xs its.toList
theorem SqU.seq {K : PySem.W.Frag} {H : Hp} {a : Addr} {xs : List V} (h : SqU K H a xs) : SqT K H a xs := by
  rcases h with h | h
  · exact .inl (.inl h)
  · exact .inr h
mutual
def Rep (ρ : List Addr) (H : Hp) : D → V → Prop
  | .non, v => v = .non
  | .bl b, v => v = .bl b
  | .int i, v => v = .int i
  | .str s, v => v = .str s
  | .tup ds, v => ∃ a xs, v = .ref a ∧ SqU K H a xs ∧ Reps ρ H ds xs
  | .lst ds, v => ∃ a xs o, v = .ref a ∧ H a = some (.frz o (.lst xs)) ∧ Reps ρ H ds xs
  | .kls ds, v => ∃ a xs, v = .ref a ∧ SqF K H a xs ∧ Reps ρ H ds xs
  | .ref n, v => ∃ a, v = .ref a ∧ ρ[n]? = some a
def Reps (ρ : List Addr) (H : Hp) : List D → List V → Prop
  | [], vs => vs = []
  | d :: ds, vs => ∃ v r, vs = v :: r ∧ Rep ρ H d v ∧ Reps ρ H ds r
end
def PR (ρ : List Addr) (H : Hp) : P → V → Prop
  | .val d, v => Rep K ρ H d v
  | .own a ds, v => v = .ref a ∧ ∃ xs, H a = some (.lst xs) ∧ Reps K ρ H ds xs
  | .bor a _, v => v = .ref a
def FsR (ρ : List Addr) (H : Hp) : List (Str × P) → List (Str × V) → Prop
  | [], vs => vs = []
  | (f, p) :: r, vs => ∃ v t, vs = (f, v) :: t ∧ PR K ρ H p v ∧ FsR ρ H r t
def FdR (ρ : List Addr) (H : Hp) : List (Str × D) → List (Str × V) → Prop
  | [], vs => vs = []
  | (f, d) :: r, vs => ∃ v t, vs = (f, v) :: t ∧ Rep K ρ H d v ∧ FdR ρ H r t
def KvR {κ : Type} (ρ : List Addr) (H : Hp) : List (κ × D) → List (κ × V) → Prop
  | [], vs => vs = []
  | (k, d) :: r, vs => ∃ v t, vs = (k, v) :: t ∧ Rep K ρ H d v ∧ KvR ρ H r t
def ObR (ρ : List Addr) (H : Hp) : MO → Addr → Prop
  | .lst ds, a => ∃ xs, H a = some (.lst xs) ∧ Reps K ρ H ds xs
  | .dic kvs, a => ∃ ks, H a = some (.dK ks) ∧ KvR K ρ H kvs ks
  | .dit kvs, a => ∃ ks, H a = some (.dT ks) ∧ KvR K ρ H kvs ks
  | .lkd kvs, a => ∃ o ks, H a = some (.frz o (.dK ks)) ∧ KvR K ρ H kvs ks
  | .ins C fs, a => ∃ dx vs, H a = some (.ins C dx vs) ∧ FsR K ρ H fs vs
/-- the store stands in the heap -/
structure SM (ρ : List Addr) (μ : List MO) (H : Hp) : Prop where
  len : ρ.length = μ.length
  obj : ∀ (n : Nat) (o : MO), μ[n]? = some o → ∃ a, ρ[n]? = some a ∧ ObR K ρ H o a
/-- the slots stand in the frame -/
structure SS (ρ : List Addr) (H : Hp) (δ : List (Option P)) (σ : L2.St) : Prop where
  len : δ.length = σ.length
  at_ : ∀ (i : Nat) (p : P), δ[i]? = some (some p) → ∃ v, σ[i]? = some (some v) ∧ PR K ρ H p v
def XR (ρ : List Addr) (H : Hp) (x : EV) (cls : Value) (d : Option Addr) : Prop :=
  cls = .ref x.cls ∧ (x.fs = [] ∨ ∃ dd vs, d = some dd ∧ H dd = some (.xd vs) ∧ FdR K ρ H x.fs vs)
end
def footP : P → Addr → Nat
  | .own a _, x => if x = a then 1 else 0
  | _, _ => 0
def footF : List (Str × P) → Addr → Nat
  | [], _ => 0
  | (_, p) :: r, x => footP p x + footF r x
def footO : MO → Addr → Nat
  | .ins _ fs, x => footF fs x
  | _, _ => 0
def footS : List (Option P) → Addr → Nat
  | [], _ => 0
  | none :: r, x => footS r x
  | some p :: r, x => footP p x + footS r x
def footM : List Addr → List MO → Addr → Nat
  | a :: ρ, o :: μ, x => (if x = a then 1 else 0) + footO o x + footM ρ μ x
  | _, _, _ => 0
/-- what is never written: tuples, frozen lists, an exception's dict -/
def Fixed : HO → Prop
  | .tup _ => True
  | .frz _ (.lst _) => True
  | .xd _ => True
  | _ => False

/-! ### facts -/
section
variable {K : PySem.W.Frag} {ρ ρ' : List Addr} {H H' : Hp}
/-- the fixed stays -/
def Stay (H H' : Hp) : Prop := ∀ a o, H a = some o → Fixed o → H' a = some o
theorem Stay.refl (H : Hp) : Stay H H := fun _ _ h _ => h
theorem Stay.trans {H1 H2 H3 : Hp} (a : Stay H1 H2) (b : Stay H2 H3) : Stay H1 H3 := fun x o h f => b x o (a x o h f) f
theorem SqU.stay {a : Addr} {xs : List V} (k : Stay H H') (h : SqU K H a xs) : SqU K H' a xs := by
  rcases h with h | h
  · exact .inl (k _ _ h trivial)
  · exact .inr h
theorem SqF.stay {a : Addr} {xs : List V} (k : Stay H H') (h : SqF K H a xs) : SqF K H' a xs := by
  rcases h with ⟨o, h⟩ | h
  · exact .inl ⟨o, k _ _ h trivial⟩
  · exact .inr h
/-- more names -/
def Ext (ρ ρ' : List Addr) : Prop := ∀ (n : Nat) (a : Addr), ρ[n]? = some a → ρ'[n]? = some a
theorem Ext.refl (ρ : List Addr) : Ext ρ ρ := fun _ _ h => h
theorem Ext.trans {a b c : List Addr} (x : Ext a b) (y : Ext b c) : Ext a c := fun n z h => y n z (x n z h)
theorem Ext.app (ρ e : List Addr) : Ext ρ (ρ ++ e) := fun n a h => by
  rw [List.getElem?_append_left (List.getElem?_eq_some_iff.mp h).1]
  exact h
mutual
theorem Rep.stay (k : Stay H H') (e : Ext ρ ρ') : ∀ (d : D) (v : V), Rep K ρ H d v → Rep K ρ' H' d v
  | .non, _, h => h
  | .bl _, _, h => h
  | .int _, _, h => h
  | .str _, _, h => h
  | .tup ds, v, h => by
    simp only [Rep] at h ⊢
    obtain ⟨a, xs, e1, e2, e3⟩ := h
    exact ⟨a, xs, e1, e2.stay k, Reps.stay k e ds xs e3⟩
  | .lst ds, v, h => by
    simp only [Rep] at h ⊢
    obtain ⟨a, xs, o, e1, e2, e3⟩ := h
    exact ⟨a, xs, o, e1, k _ _ e2 trivial, Reps.stay k e ds xs e3⟩
  | .kls ds, v, h => by
    simp only [Rep] at h ⊢
    obtain ⟨a, xs, e1, e2, e3⟩ := h
    exact ⟨a, xs, e1, e2.stay k, Reps.stay k e ds xs e3⟩
  | .ref n, v, h => by
    simp only [Rep] at h ⊢
    obtain ⟨a, e1, e2⟩ := h
    exact ⟨a, e1, e n a e2⟩
theorem Reps.stay (k : Stay H H') (e : Ext ρ ρ') : ∀ (ds : List D) (vs : List V), Reps K ρ H ds vs → Reps K ρ' H' ds vs
  | [], _, h => h
  | d :: ds, vs, h => by
    simp only [Reps] at h ⊢
    obtain ⟨v, r, e1, e2, e3⟩ := h
    exact ⟨v, r, e1, Rep.stay k e d v e2, Reps.stay k e ds r e3⟩
end
theorem FdR.stay (k : Stay H H') (e : Ext ρ ρ') : ∀ (fs : List (Str × D)) (vs : List (Str × V)), FdR K ρ H fs vs → FdR K ρ' H' fs vs
  | [], _, h => h
  | (f, d) :: fs, vs, h => by
    obtain ⟨v, t, e1, e2, e3⟩ := h
    exact ⟨v, t, e1, e2.stay k e, FdR.stay k e fs t e3⟩
theorem KvR.stay {κ : Type} (k : Stay H H') (e : Ext ρ ρ') : ∀ (fs : List (κ × D)) (vs : List (κ × V)), KvR K ρ H fs vs → KvR K ρ' H' fs vs
  | [], _, h => h
  | (f, d) :: fs, vs, h => by
    obtain ⟨v, t, e1, e2, e3⟩ := h
    exact ⟨v, t, e1, e2.stay k e, KvR.stay k e fs t e3⟩
theorem XR.stay (k : Stay H H') (e : Ext ρ ρ') {x : EV} {cls : Value} {d : Option Addr} (h : XR K ρ H x cls d) : XR K ρ' H' x cls d := by
  obtain ⟨h1, h2⟩ := h
  refine ⟨h1, ?_⟩
  rcases h2 with h2 | ⟨dd, vs, e1, e2, e3⟩
  · exact .inl h2
  · exact .inr ⟨dd, vs, e1, k _ _ e2 trivial, e3.stay k e⟩
/-- a place's content stays where its list, if it holds one alone, stays -/
theorem PR.stay (k : Stay H H') (e : Ext ρ ρ') {p : P} {v : V} (ko : ∀ a o, footP p a = 1 → H a = some o → H' a = some o) (h : PR K ρ H p v) : PR K ρ' H' p v := by
  cases p with
  | val d => exact Rep.stay k e d v h
  | own a ds =>
    obtain ⟨e1, xs, e2, e3⟩ := h
    exact ⟨e1, xs, ko a _ (by simp [footP]) e2, e3.stay k e⟩
  | bor a pl => exact h
theorem FsR.stay (k : Stay H H') (e : Ext ρ ρ') : ∀ (fs : List (Str × P)) (vs : List (Str × V)), (∀ a o, 1 ≤ footF fs a → H a = some o → H' a = some o) → FsR K ρ H fs vs → FsR K ρ' H' fs vs
  | [], _, _, h => h
  | (f, p) :: fs, vs, ko, h => by
    obtain ⟨v, t, e1, e2, e3⟩ := h
    exact ⟨v, t, e1, e2.stay k e fun a o h1 h2 => ko a o (by simp only [footF]; omega) h2, FsR.stay k e fs t (fun a o h1 h2 => ko a o (by simp only [footF]; omega) h2) e3⟩
theorem ObR.stay (k : Stay H H') (e : Ext ρ ρ') {o : MO} {a : Addr} (ko : ∀ b u, (b = a ∨ 1 ≤ footO o b) → H b = some u → H' b = some u) (h : ObR K ρ H o a) : ObR K ρ' H' o a := by
  cases o with
  | lst ds =>
    obtain ⟨xs, e1, e2⟩ := h
    exact ⟨xs, ko _ _ (.inl rfl) e1, e2.stay k e⟩
  | dic kvs =>
    obtain ⟨xs, e1, e2⟩ := h
    exact ⟨xs, ko _ _ (.inl rfl) e1, e2.stay k e⟩
  | dit kvs =>
    obtain ⟨xs, e1, e2⟩ := h
    exact ⟨xs, ko _ _ (.inl rfl) e1, e2.stay k e⟩
  | lkd kvs =>
    obtain ⟨o, xs, e1, e2⟩ := h
    exact ⟨o, xs, ko _ _ (.inl rfl) e1, e2.stay k e⟩
  | ins C fs =>
    obtain ⟨dx, vs, e1, e2⟩ := h
    exact ⟨dx, vs, ko _ _ (.inl rfl) e1, e2.stay k e _ _ fun b u q => ko b u (.inr q)⟩
/-! ### how much of an address the state holds -/
theorem footM_at : ∀ {ρ : List Addr} {μ : List MO} {n : Nat} {a : Addr} {o : MO} (x : Addr), ρ[n]? = some a → μ[n]? = some o → (if x = a then 1 else 0) + footO o x ≤ footM ρ μ x
  | [], _, _, _, _, _, h, _ => by simp at h
  | _ :: _, [], _, _, _, _, _, h => by simp at h
  | a :: ρ, o :: μ, 0, _, _, x, h1, h2 => by
    simp at h1 h2
    subst h1 h2
    simp only [footM]
    omega
  | a :: ρ, o :: μ, n + 1, _, _, x, h1, h2 => by
    have := footM_at (n := n) x (by simpa using h1) (by simpa using h2)
    simp only [footM]
    omega
theorem footM_has : ∀ {ρ : List Addr} {μ : List MO} {x : Addr}, 1 ≤ footM ρ μ x → ∃ (n : Nat) (a : Addr) (o : MO), ρ[n]? = some a ∧ μ[n]? = some o ∧ (x = a ∨ 1 ≤ footO o x)
  | [], _, _, h => by simp [footM] at h
  | _ :: _, [], _, h => by simp [footM] at h
  | a :: ρ, o :: μ, x, h => by
    simp only [footM] at h
    by_cases h1 : x = a
    · exact ⟨0, a, o, rfl, rfl, .inl h1⟩
    · by_cases h2 : 1 ≤ footO o x
      · exact ⟨0, a, o, rfl, rfl, .inr h2⟩
      · rw [if_neg h1] at h
        obtain ⟨n, b, u, q1, q2, q3⟩ := footM_has (ρ := ρ) (μ := μ) (x := x) (by omega)
        exact ⟨n + 1, b, u, by simpa using q1, by simpa using q2, q3⟩
theorem footS_at : ∀ {δ : List (Option P)} {i : Nat} {p : P} (x : Addr), δ[i]? = some (some p) → footP p x ≤ footS δ x
  | [], _, _, _, h => by simp at h
  | none :: δ, 0, _, _, h => by simp at h
  | some q :: δ, 0, _, x, h => by
    simp at h
    subst h
    simp only [footS]
    omega
  | none :: δ, i + 1, _, x, h => by
    have := footS_at (δ := δ) (i := i) x (by simpa using h)
    simpa only [footS] using this
  | some q :: δ, i + 1, _, x, h => by
    have := footS_at (δ := δ) (i := i) x (by simpa using h)
    simp only [footS]
    omega
theorem footS_has : ∀ {δ : List (Option P)} {x : Addr}, 1 ≤ footS δ x → ∃ (i : Nat) (p : P), δ[i]? = some (some p) ∧ 1 ≤ footP p x
  | [], _, h => by simp [footS] at h
  | none :: δ, x, h => by
    obtain ⟨i, p, q1, q2⟩ := footS_has (δ := δ) (x := x) (by simpa only [footS] using h)
    exact ⟨i + 1, p, by simpa using q1, q2⟩
  | some q :: δ, x, h => by
    simp only [footS] at h
    by_cases h1 : 1 ≤ footP q x
    · exact ⟨0, q, rfl, h1⟩
    · obtain ⟨i, p, q1, q2⟩ := footS_has (δ := δ) (x := x) (by omega)
      exact ⟨i + 1, p, by simpa using q1, q2⟩
theorem footP_le (p : P) (x : Addr) : footP p x ≤ 1 := by
  cases p with
  | own a ds =>
    simp only [footP]
    split <;> omega
  | _ => exact Nat.zero_le _
theorem footF_has : ∀ {fs : List (Str × P)} {x : Addr}, 1 ≤ footF fs x → ∃ f p, (f, p) ∈ fs ∧ 1 ≤ footP p x
  | [], _, h => by simp [footF] at h
  | (f, p) :: fs, x, h => by
    simp only [footF] at h
    by_cases h1 : 1 ≤ footP p x
    · exact ⟨f, p, List.mem_cons_self, h1⟩
    · obtain ⟨g, q, q1, q2⟩ := footF_has (fs := fs) (x := x) (by omega)
      exact ⟨g, q, List.mem_cons_of_mem _ q1, q2⟩
/-- what a place holds alone is there, and is a list -/
theorem PR.foot {p : P} {v : V} {x : Addr} (h : PR K ρ H p v) (q : 1 ≤ footP p x) : ∃ xs, H x = some (.lst xs) := by
  cases p with
  | own a ds =>
    simp only [footP] at q
    have e : x = a := by
      by_cases e : x = a
      · exact e
      · rw [if_neg e] at q
        omega
    obtain ⟨_, xs, e2, _⟩ := h
    exact ⟨xs, by rw [e]; exact e2⟩
  | val d => simp [footP] at q
  | bor a pl => simp [footP] at q
theorem FsR.foot : ∀ {fs : List (Str × P)} {vs : List (Str × V)} {x : Addr}, FsR K ρ H fs vs → 1 ≤ footF fs x → ∃ xs, H x = some (.lst xs)
  | [], _, _, _, q => by simp [footF] at q
  | (f, p) :: fs, vs, x, h, q => by
    obtain ⟨v, t, e1, e2, e3⟩ := h
    simp only [footF] at q
    by_cases h1 : 1 ≤ footP p x
    · exact e2.foot h1
    · exact FsR.foot (fs := fs) e3 (by omega)
theorem SM.foot {μ : List MO} {x : Addr} (h : SM K ρ μ H) (q : 1 ≤ footM ρ μ x) : ∃ o, H x = some o ∧ ¬ Fixed o := by
  obtain ⟨n, a, o, h1, h2, h3⟩ := footM_has q
  obtain ⟨b, h4, h5⟩ := h.obj n o h2
  rw [h1] at h4
  cases h4
  rcases h3 with h3 | h3
  · subst h3
    cases o with
    | lst ds => obtain ⟨xs, e1, e2⟩ := h5; exact ⟨_, e1, fun z => z⟩
    | dic ds => obtain ⟨xs, e1, e2⟩ := h5; exact ⟨_, e1, fun z => z⟩
    | dit ds => obtain ⟨xs, e1, e2⟩ := h5; exact ⟨_, e1, fun z => z⟩
    | lkd ds => obtain ⟨_, xs, e1, e2⟩ := h5; exact ⟨_, e1, fun z => z⟩
    | ins C fs => obtain ⟨dx, vs, e1, e2⟩ := h5; exact ⟨_, e1, fun z => z⟩
  · cases o with
    | ins C fs =>
      obtain ⟨dx, vs, e1, e2⟩ := h5
      obtain ⟨xs, e⟩ := e2.foot h3
      exact ⟨_, e, fun z => z⟩
    | lst ds => simp [footO] at h3
    | dic ds => simp [footO] at h3
    | dit ds => simp [footO] at h3
    | lkd ds => simp [footO] at h3
theorem SS.foot {δ : List (Option P)} {σ : L2.St} {x : Addr} (h : SS K ρ H δ σ) (q : 1 ≤ footS δ x) : ∃ xs, H x = some (.lst xs) := by
  obtain ⟨i, p, h1, h2⟩ := footS_has q
  obtain ⟨v, _, h4⟩ := h.at_ i p h1
  exact h4.foot h2
/-- the store stays where all that it holds stays -/
theorem SM.stay {μ : List MO} (k : Stay H H') (ko : ∀ a o, 1 ≤ footM ρ μ a → H a = some o → H' a = some o) (h : SM K ρ μ H) : SM K ρ μ H' := by
  refine ⟨h.len, fun n o e => ?_⟩
  obtain ⟨a, e1, e2⟩ := h.obj n o e
  refine ⟨a, e1, e2.stay k (Ext.refl ρ) fun b u q z => ko b u ?_ z⟩
  have := footM_at b e1 e
  rcases q with q | q
  · rw [if_pos q] at this
    omega
  · omega
theorem SS.stay {δ : List (Option P)} {σ : L2.St} (k : Stay H H') (e : Ext ρ ρ') (ko : ∀ a o, 1 ≤ footS δ a → H a = some o → H' a = some o) (h : SS K ρ H δ σ) : SS K ρ' H' δ σ := by
  refine ⟨h.len, fun i p q => ?_⟩
  obtain ⟨v, e1, e2⟩ := h.at_ i p q
  refine ⟨v, e1, e2.stay k e fun a o z => ko a o ?_⟩
  have := footS_at a q
  omega
end
/-! ### the whole state, and how it goes on -/
structure Hold (K : PySem.W.Frag) (ρ : List Addr) (μ : List MO) (δ : List (Option P)) (σ : L2.St) (H : Hp) : Prop where
  sm : SM K ρ μ H
  ss : SS K ρ H δ σ
  one : ∀ x, footS δ x + footM ρ μ x ≤ 1
/-- from (ρ, H), where B was held, to (ρ', μ', H'), with F held besides the store -/
structure Evo (K : PySem.W.Frag) (B : Addr → Nat) (ρ : List Addr) (H : Hp) (ρ' : List Addr) (μ' : List MO) (H' : Hp) (F : Addr → Nat) : Prop where
  sm : SM K ρ' μ' H'
  ext : Ext ρ ρ'
  keep : ∀ a o, H a = some o → B a = 0 → H' a = some o
  grow : ∀ x, 1 ≤ F x + footM ρ' μ' x → 1 ≤ B x ∨ H x = none
  one : ∀ x, F x + footM ρ' μ' x ≤ 1
abbrev F0 : Addr → Nat := fun _ => 0
/-- the store's and the slots' -/
abbrev footB (ρ : List Addr) (μ : List MO) (δ : List (Option P)) : Addr → Nat := fun x => footS δ x + footM ρ μ x
section
variable {K : PySem.W.Frag} {ρ ρ1 ρ2 : List Addr} {μ μ1 μ2 : List MO} {δ δ1 : List (Option P)} {σ : L2.St} {H H1 H2 : Hp} {B B1 F G : Addr → Nat}
theorem Hold.foot (h : Hold K ρ μ δ σ H) {x : Addr} (q : 1 ≤ footB ρ μ δ x) : ∃ o, H x = some o ∧ ¬ Fixed o := by
  by_cases z : 1 ≤ footM ρ μ x
  · exact h.sm.foot z
  · have q' : 1 ≤ footS δ x + footM ρ μ x := q
    obtain ⟨xs, e⟩ := h.ss.foot (x := x) (by omega)
    exact ⟨_, e, fun z => z⟩
theorem Evo.stay (h : ∀ x, 1 ≤ B x → ∃ o, H x = some o ∧ ¬ Fixed o) (e : Evo K B ρ H ρ1 μ1 H1 F) : Stay H H1 := fun a o q f => e.keep a o q (by
  by_cases z : 1 ≤ B a
  · obtain ⟨u, h1, h2⟩ := h a z
    rw [q] at h1
    cases h1
    exact absurd f h2
  · omega)
theorem Evo.stayM (h : SM K ρ μ H) (e : Evo K (footM ρ μ) ρ H ρ1 μ1 H1 F) : Stay H H1 := e.stay fun _ z => h.foot z
theorem Evo.refl (h : SM K ρ μ H) (o : ∀ x, footM ρ μ x ≤ 1) : Evo K (footM ρ μ) ρ H ρ μ H F0 :=
  ⟨h, Ext.refl ρ, fun _ _ q _ => q, fun x q => .inl (by simpa using q), fun x => by simpa using o x⟩
theorem Hold.le (h : Hold K ρ μ δ σ H) (x : Addr) : footM ρ μ x ≤ 1 := by have := h.one x; omega
theorem Hold.refl (h : Hold K ρ μ δ σ H) : Evo K (footM ρ μ) ρ H ρ μ H F0 := Evo.refl h.sm h.le
theorem Hold.reflS (h : Hold K ρ μ δ σ H) : Evo K (footB ρ μ δ) ρ H ρ μ H (footS δ) :=
  ⟨h.sm, Ext.refl ρ, fun _ _ q _ => q, fun x q => .inl q, h.one⟩
theorem Evo.trans (a : Evo K B ρ H ρ1 μ1 H1 F) (b : Evo K B1 ρ1 H1 ρ2 μ2 H2 G) (l : ∀ x, 1 ≤ B1 x → 1 ≤ F x + footM ρ1 μ1 x) : Evo K B ρ H ρ2 μ2 H2 G := by
  refine ⟨b.sm, a.ext.trans b.ext, fun x o q z => b.keep x o (a.keep x o q z) ?_, fun x q => ?_, b.one⟩
  · by_cases w : 1 ≤ B1 x
    · rcases a.grow x (l x w) with r | r
      · omega
      · rw [q] at r
        cases r
    · omega
  · rcases b.grow x q with r | r
    · exact a.grow x (l x r)
    · by_cases w : 1 ≤ B x
      · exact .inl w
      · refine .inr ?_
        cases e : H x with
        | none => rfl
        | some o => rw [a.keep x o e (by omega)] at r; cases r
theorem Evo.transM (a : Evo K B ρ H ρ1 μ1 H1 F) (b : Evo K (footM ρ1 μ1) ρ1 H1 ρ2 μ2 H2 G) : Evo K B ρ H ρ2 μ2 H2 G := a.trans b fun x q => by omega
theorem Evo.transS (a : Evo K B ρ H ρ1 μ1 H1 (footS δ)) (b : Evo K (footB ρ1 μ1 δ) ρ1 H1 ρ2 μ2 H2 G) : Evo K B ρ H ρ2 μ2 H2 G := a.trans b fun x q => q
/-- what a result holds is not the frame's -/
theorem Hold.apart (h : Hold K ρ μ δ σ H) (e : Evo K (footM ρ μ) ρ H ρ1 μ1 H1 F) (x : Addr) : F x + footS δ x + footM ρ1 μ1 x ≤ 1 := by
  by_cases q : 1 ≤ footS δ x
  · have h1 := h.one x
    by_cases w : 1 ≤ F x + footM ρ1 μ1 x
    · rcases e.grow x w with r | r
      · omega
      · obtain ⟨xs, t⟩ := h.ss.foot q
        rw [t] at r
        cases r
    · omega
  · have := e.one x
    omega
/-- the frame's slots through it -/
theorem Hold.after (h : Hold K ρ μ δ σ H) (e : Evo K (footM ρ μ) ρ H ρ1 μ1 H1 F) : Hold K ρ1 μ1 δ σ H1 := by
  have z : ∀ x, 1 ≤ footS δ x → footM ρ μ x = 0 := fun x q => by have := h.one x; omega
  refine ⟨e.sm, h.ss.stay (e.stayM h.sm) e.ext fun a o q r => e.keep a o r (z a q), fun x => ?_⟩
  have := h.apart e x
  omega
/-- an expression's way as a statement's -/
theorem Hold.evoB (h : Hold K ρ μ δ σ H) (e : Evo K (footM ρ μ) ρ H ρ1 μ1 H1 F) : Evo K (footB ρ μ δ) ρ H ρ1 μ1 H1 (fun x => F x + footS δ x) := by
  refine ⟨e.sm, e.ext, fun a o q z => e.keep a o q ?_, fun x q => ?_, h.apart e⟩
  · have z' : footS δ a + footM ρ μ a = 0 := z
    omega
  · by_cases w : 1 ≤ footS δ x
    · exact .inl (show 1 ≤ footS δ x + footM ρ μ x by omega)
    · rcases e.grow x (by omega) with r | r
      · exact .inl (show 1 ≤ footS δ x + footM ρ μ x by omega)
      · exact .inr r
theorem Evo.less (a : Evo K B ρ H ρ1 μ1 H1 F) (l : ∀ x, G x ≤ F x) : Evo K B ρ H ρ1 μ1 H1 G :=
  ⟨a.sm, a.ext, a.keep, fun x q => a.grow x (by have := l x; omega), fun x => by have := a.one x; have := l x; omega⟩
theorem Evo.drop (a : Evo K B ρ H ρ1 μ1 H1 F) : Evo K B ρ H ρ1 μ1 H1 F0 := a.less fun x => Nat.zero_le _
/-- a result that waits, through a further step -/
theorem Evo.wait {p : P} {v : V} (a : Evo K B ρ H ρ1 μ1 H1 (footP p)) (r : PR K ρ1 H1 p v) (b : Evo K (footM ρ1 μ1) ρ1 H1 ρ2 μ2 H2 G) : PR K ρ2 H2 p v ∧ ∀ x, footP p x + G x + footM ρ2 μ2 x ≤ 1 := by
  have z : ∀ x, 1 ≤ footP p x → footM ρ1 μ1 x = 0 := fun x q => by have := a.one x; omega
  refine ⟨r.stay (b.stayM a.sm) b.ext fun x o q w => b.keep x o w (z x (by omega)), fun x => ?_⟩
  by_cases q : 1 ≤ footP p x
  · have h1 := a.one x
    by_cases w : 1 ≤ G x + footM ρ2 μ2 x
    · rcases b.grow x w with t | t
      · omega
      · obtain ⟨xs, t'⟩ := r.foot q
        rw [t'] at t
        cases t
    · omega
  · have := b.one x
    omega
/-- a new thing is laid that nothing of the state speaks of yet -/
theorem stay_new {a : Addr} {o : HO} (n : H a = none) : ∀ b u, H b = some u → upd H a o b = some u := fun b u q => by
  rw [upd_ne (ne_of_none q n)]
  exact q
theorem SM.new {a : Addr} {o : HO} (h : SM K ρ μ H) (n : H a = none) : SM K ρ μ (upd H a o) := h.stay (fun b u q _ => stay_new n b u q) fun b u _ q => stay_new n b u q
theorem Evo.new {a : Addr} {o : HO} (h : SM K ρ μ H) (o1 : ∀ x, footM ρ μ x ≤ 1) (n : H a = none) : Evo K (footM ρ μ) ρ H ρ μ (upd H a o) (fun x => if x = a then 1 else 0) := by
  refine ⟨h.new n, Ext.refl ρ, fun b u q _ => stay_new n b u q, fun x q => ?_, fun x => ?_⟩
  · by_cases e : x = a
    · exact .inr (by rw [e]; exact n)
    · rw [if_neg e] at q
      exact .inl (by omega)
  · by_cases e : x = a
    · rw [if_pos e]
      by_cases z : 1 ≤ footM ρ μ x
      · obtain ⟨u, h1, _⟩ := h.foot z
        rw [e, n] at h1
        cases h1
      · omega
    · rw [if_neg e]
      have := o1 x
      omega
theorem footM_app : ∀ (ρ : List Addr) (μ : List MO) (a : Addr) (o : MO) (x : Addr), ρ.length = μ.length → footM (ρ ++ [a]) (μ ++ [o]) x = footM ρ μ x + ((if x = a then 1 else 0) + footO o x)
  | [], [], a, o, x, _ => by simp [footM]
  | b :: ρ, u :: μ, a, o, x, h => by
    have ih := footM_app ρ μ a o x (by simpa using h)
    simp only [List.cons_append, footM, ih]
    omega
  | [], _ :: _, _, _, _, h => by simp at h
  | _ :: _, [], _, _, _, h => by simp at h
/-- a new object of the store -/
theorem SM.push {a : Addr} {o : MO} (h : SM K ρ μ H) (r : ObR K (ρ ++ [a]) H o a) : SM K (ρ ++ [a]) (μ ++ [o]) H := by
  refine ⟨by simp [h.len], fun n u e => ?_⟩
  by_cases q : n < μ.length
  · rw [List.getElem?_append_left q] at e
    obtain ⟨b, e1, e2⟩ := h.obj n u e
    exact ⟨b, Ext.app ρ [a] n b e1, e2.stay (Stay.refl H) (Ext.app ρ [a]) fun _ _ _ z => z⟩
  · rw [List.getElem?_append_right (by omega)] at e
    have hn : n = μ.length := by
      cases z : n - μ.length with
      | zero => omega
      | succ k => rw [z] at e; simp at e
    subst hn
    simp at e
    subst e
    exact ⟨a, by rw [← h.len]; simp, r⟩
theorem Evo.push {a : Addr} {o : MO} {u : HO} (h : SM K ρ μ H) (o1 : ∀ x, footM ρ μ x ≤ 1) (n : H a = none) (z : ∀ x, footO o x = 0) (r : ObR K (ρ ++ [a]) (upd H a u) o a) : Evo K (footM ρ μ) ρ H (ρ ++ [a]) (μ ++ [o]) (upd H a u) F0 := by
  have e := Evo.new (o := u) h o1 n
  refine ⟨e.sm.push r, Ext.app ρ [a], e.keep, fun x q => ?_, fun x => ?_⟩
  · rw [footM_app _ _ _ _ _ h.len, z x] at q
    exact e.grow x (by have : F0 x = 0 := rfl; omega)
  · rw [footM_app _ _ _ _ _ h.len, z x]
    have := e.one x
    have : F0 x = 0 := rfl
    omega
theorem footM_set : ∀ (ρ : List Addr) (μ : List MO) (n : Nat) (o o' : MO) (x : Addr), ρ.length = μ.length → μ[n]? = some o → footM ρ (μ.set n o') x + footO o x = footM ρ μ x + footO o' x
  | [], [], _, _, _, _, _, e => by simp at e
  | [], _ :: _, _, _, _, _, h, _ => by simp at h
  | a :: ρ, [], _, _, _, _, h, _ => by simp at h
  | a :: ρ, u :: μ, 0, o, o', x, h, e => by
    simp at e
    subst e
    simp only [List.set_cons_zero, footM]
    omega
  | a :: ρ, u :: μ, n + 1, o, o', x, h, e => by
    have ih := footM_set ρ μ n o o' x (by simpa using h) (by simpa using e)
    simp only [List.set_cons_succ, footM]
    omega
theorem footM_two : ∀ {ρ : List Addr} {μ : List MO} {n m : Nat} {a b : Addr} {o u : MO} (x : Addr), n ≠ m → ρ[n]? = some a → μ[n]? = some o → ρ[m]? = some b → μ[m]? = some u →
    ((if x = a then 1 else 0) + footO o x) + ((if x = b then 1 else 0) + footO u x) ≤ footM ρ μ x
  | [], _, _, _, _, _, _, _, _, _, h, _, _, _ => by simp at h
  | _ :: _, [], _, _, _, _, _, _, _, _, _, h, _, _ => by simp at h
  | c :: ρ, w :: μ, 0, 0, _, _, _, _, _, hn, _, _, _, _ => absurd rfl hn
  | c :: ρ, w :: μ, 0, m + 1, _, _, _, _, x, hn, h1, h2, h3, h4 => by
    simp at h1 h2
    subst h1 h2
    have := footM_at (n := m) x (by simpa using h3) (by simpa using h4)
    simp only [footM]
    omega
  | c :: ρ, w :: μ, n + 1, 0, _, _, _, _, x, hn, h1, h2, h3, h4 => by
    simp at h3 h4
    subst h3 h4
    have := footM_at (n := n) x (by simpa using h1) (by simpa using h2)
    simp only [footM]
    omega
  | c :: ρ, w :: μ, n + 1, m + 1, _, _, _, _, x, hn, h1, h2, h3, h4 => by
    have := footM_two (n := n) (m := m) x (fun e => hn (by rw [e])) (by simpa using h1) (by simpa using h2) (by simpa using h3) (by simpa using h4)
    simp only [footM]
    omega
/-- an object of the store is changed -/
theorem Evo.set {n : Nat} {a : Addr} {o o' : MO} {u : HO} {Fi Fo : Addr → Nat} (h : SM K ρ μ H) (o1 : ∀ x, Fi x + footM ρ μ x ≤ 1) (ea : ρ[n]? = some a) (eo : μ[n]? = some o)
    (fo : ∀ x, footO o' x + Fo x ≤ footO o x + Fi x) (r : Stay H (upd H a u) → (∀ b w, 1 ≤ footO o b + Fi b → H b = some w → upd H a u b = some w) → ObR K ρ (upd H a u) o' a) :
    Evo K (fun x => Fi x + footM ρ μ x) ρ H ρ (μ.set n o') (upd H a u) Fo := by
  have at1 : 1 ≤ footM ρ μ a := by
    have := footM_at a ea eo
    rw [if_pos rfl] at this
    omega
  have ne : ∀ b, footM ρ μ b = 0 → b ≠ a := fun b q z => by rw [z] at q; omega
  have st : Stay H (upd H a u) := fun b w q f => by
    rw [upd_ne]
    · exact q
    · intro z
      obtain ⟨w', h1, h2⟩ := h.foot at1
      rw [z, h1] at q
      cases q
      exact h2 f
  have ko : ∀ b w, 1 ≤ footO o b + Fi b → H b = some w → upd H a u b = some w := fun b w q e => by
    rw [upd_ne]
    · exact e
    · intro z
      subst z
      have h1 := footM_at b ea eo
      rw [if_pos rfl] at h1
      have h2 := o1 b
      omega
  have fs := fun x => footM_set ρ μ n o o' x h.len eo
  refine ⟨⟨by rw [List.length_set]; exact h.len, fun m w e => ?_⟩, Ext.refl ρ, fun b w q z => ?_, fun x q => ?_, fun x => ?_⟩
  · by_cases hm : m = n
    · subst hm
      have hl : m < μ.length := (List.getElem?_eq_some_iff.mp eo).1
      rw [List.getElem?_set_self hl] at e
      cases e
      exact ⟨a, ea, r st ko⟩
    · rw [List.getElem?_set_ne (Ne.symm hm)] at e
      obtain ⟨b, e1, e2⟩ := h.obj m w e
      refine ⟨b, e1, e2.stay st (Ext.refl ρ) fun c v q z => ?_⟩
      rw [upd_ne]
      · exact z
      · intro t
        subst t
        have h1 := footM_two c (Ne.symm hm) ea eo e1 e
        have h2 := o1 c
        rw [if_pos rfl] at h1
        rcases q with q | q
        · rw [if_pos q] at h1
          omega
        · omega
  · have z' : Fi b + footM ρ μ b = 0 := z
    rw [upd_ne (ne b (by omega))]
    exact q
  · have h1 := fs x
    have h2 := fo x
    refine .inl ?_
    show 1 ≤ Fi x + footM ρ μ x
    omega
  · have h1 := fs x
    have h2 := fo x
    have h3 := o1 x
    omega
end
end NT

/-! NT: what an expression, a test, a row of arguments, a statement does to trees; how that stands over the hand layer; defs. -/
namespace NT
open PySem PySem.Spec PyProof.Rows L2

abbrev Sl := List (Option P)
abbrev Mu := List MO
abbrev CX := EV → Mu → Prop
abbrev FE := Sl → Mu → (P → Mu → Prop) → CX → Prop
abbrev FT := Sl → Mu → (Bool → Mu → Prop) → CX → Prop
abbrev FA := Sl → Mu → (List D → Mu → Prop) → CX → Prop
/-- what is wanted behind a statement -/
structure FD where
  nx : Sl → Mu → Prop
  rt : P → Mu → Prop
  bk : Sl → Mu → Prop
  ct : Sl → Mu → Prop
  ex : EV → Sl → Mu → Prop
abbrev FS := FD → Sl → Mu → Prop
/-- a def: its arguments' trees, the store -/
abbrev FN := List D → Mu → (P → Mu → Prop) → CX → Prop

section
variable (K : PySem.W.Frag) (W : WX)
/-- an exception's way out of an expression -/
def XOut (ρ : List Addr) (μ : Mu) (σ : L2.St) (H : Hp) (E : CX) : Prop := ∀ x μ', E x μ' → ∀ ρ' H' cls d, Evo K (footM ρ μ) ρ H ρ' μ' H' F0 → XR K ρ' H' x cls d → W cls d σ H'
def liftE (f : FE) : TE := fun σ H Q => ∃ ρ μ δ C E, Hold K ρ μ δ σ H ∧ f δ μ C E ∧ (∀ p μ', C p μ' → ∀ ρ' H' v, Evo K (footM ρ μ) ρ H ρ' μ' H' (footP p) → PR K ρ' H' p v → Q v H') ∧ XOut K W ρ μ σ H E
def liftT (f : FT) : TT := fun σ H Q => ∃ ρ μ δ C E, Hold K ρ μ δ σ H ∧ f δ μ C E ∧ (∀ b μ', C b μ' → ∀ ρ' H', Evo K (footM ρ μ) ρ H ρ' μ' H' F0 → Q b H') ∧ XOut K W ρ μ σ H E
def liftA (f : FA) : TA := fun σ H Q => ∃ ρ μ δ C E, Hold K ρ μ δ σ H ∧ f δ μ C E ∧ (∀ ds μ', C ds μ' → ∀ ρ' H' vs, Evo K (footM ρ μ) ρ H ρ' μ' H' F0 → Reps K ρ' H' ds vs → Q vs H') ∧ XOut K W ρ μ σ H E
def SOut (ρ : List Addr) (μ : Mu) (δ : Sl) (H : Hp) (C : Sl → Mu → Prop) (N : L2.St → Hp → Prop) : Prop := ∀ δ' μ', C δ' μ' → ∀ ρ' σ' H', Evo K (footB ρ μ δ) ρ H ρ' μ' H' (footS δ') → SS K ρ' H' δ' σ' → N σ' H'
structure FDOk (ρ : List Addr) (μ : Mu) (δ : Sl) (H : Hp) (D' : FD) (D : Ends) : Prop where
  nx : SOut K ρ μ δ H D'.nx D.nx
  bk : SOut K ρ μ δ H D'.bk D.bk
  ct : SOut K ρ μ δ H D'.ct D.ct
  rt : ∀ p μ', D'.rt p μ' → ∀ ρ' H' v, Evo K (footB ρ μ δ) ρ H ρ' μ' H' (footP p) → PR K ρ' H' p v → D.rt v H'
  ex : ∀ x δ' μ', D'.ex x δ' μ' → ∀ ρ' σ' H' cls d, Evo K (footB ρ μ δ) ρ H ρ' μ' H' (footS δ') → SS K ρ' H' δ' σ' → XR K ρ' H' x cls d → W cls d σ' H'
def liftS (f : FS) : TS := fun D σ H => ∃ ρ μ δ D', Hold K ρ μ δ σ H ∧ f D' δ μ ∧ FDOk K W ρ μ δ H D' D
end
/-- the judgements -/
def EF (X : Cx) (W : WX) (e : Expr) (f : FE) : Prop := PE X e (liftE X.K W f)
def TF (X : Cx) (W : WX) (e : Expr) (f : FT) : Prop := PT X e (liftT X.K W f)
def WF (X : Cx) (W : WX) (e : Expr) (f : FT) : Prop := PW X e (liftT X.K W f)
def AF (X : Cx) (W : WX) (es : List Expr) (f : FA) : Prop := PA X es (liftA X.K W f)
def SF (X : Cx) (W : WX) (s : Stmt) (f : FS) : Prop := PS X s (liftS X.K W f)
def BF (X : Cx) (W : WX) (s : List Stmt) (f : FS) : Prop := PSs X s (liftS X.K W f)

theorem pe_imp {X : Cx} {e : Expr} {t t' : TE} (h : PE X e t) (i : ∀ σ H Q, t' σ H Q → t σ H Q) : PE X e t' := ⟨fun pins s σ H Q I q => h.run pins s σ H Q I (i σ H Q q)⟩
theorem pt_imp {X : Cx} {e : Expr} {t t' : TT} (h : PT X e t) (i : ∀ σ H Q, t' σ H Q → t σ H Q) : PT X e t' := ⟨fun pins s σ H Q I q => h.run pins s σ H Q I (i σ H Q q)⟩
theorem pw_imp {X : Cx} {e : Expr} {t t' : TT} (h : PW X e t) (i : ∀ σ H Q, t' σ H Q → t σ H Q) : PW X e t' := ⟨fun wh pins s σ H Q I q => h.run wh pins s σ H Q I (i σ H Q q)⟩
theorem pa_imp {X : Cx} {e : List Expr} {t t' : TA} (h : PA X e t) (i : ∀ σ H Q, t' σ H Q → t σ H Q) : PA X e t' := ⟨fun pos pins s σ H Q I q => h.run pos pins s σ H Q I (i σ H Q q)⟩
theorem ps_imp {X : Cx} {e : Stmt} {t t' : TS} (h : PS X e t) (i : ∀ D σ H, t' D σ H → t D σ H) : PS X e t' := ⟨fun pins s σ H D I q => h.run pins s σ H D I (i D σ H q)⟩
theorem pss_imp {X : Cx} {e : List Stmt} {t t' : TS} (h : PSs X e t) (i : ∀ D σ H, t' D σ H → t D σ H) : PSs X e t' := ⟨fun pins s σ H D I q => h.run pins s σ H D I (i D σ H q)⟩

section
variable {K : PySem.W.Frag} {W : WX} {ρ ρ1 ρ2 : List Addr} {μ μ1 μ2 : Mu} {δ δ1 : Sl} {σ σ1 : L2.St} {H H1 H2 : Hp} {F : Addr → Nat} {E : CX}
theorem XOut.after (x : XOut K W ρ μ σ H E) (e : Evo K (footM ρ μ) ρ H ρ1 μ1 H1 F) : XOut K W ρ1 μ1 σ H1 E := fun y μ' h ρ' H' cls d e' r => x y μ' h ρ' H' cls d (e.transM e') r
theorem SOut.after {C : Sl → Mu → Prop} {N : L2.St → Hp → Prop} (x : SOut K ρ μ δ H C N) (e : Evo K (footB ρ μ δ) ρ H ρ1 μ1 H1 (footS δ1)) : SOut K ρ1 μ1 δ1 H1 C N := fun δ' μ' h ρ' σ' H' e' r => x δ' μ' h ρ' σ' H' (e.transS e') r
theorem FDOk.after {D' : FD} {D : Ends} (x : FDOk K W ρ μ δ H D' D) (e : Evo K (footB ρ μ δ) ρ H ρ1 μ1 H1 (footS δ1)) : FDOk K W ρ1 μ1 δ1 H1 D' D :=
  ⟨x.nx.after e, x.bk.after e, x.ct.after e, fun p μ' h ρ' H' v e' r => x.rt p μ' h ρ' H' v (e.transS e') r, fun y δ' μ' h ρ' σ' H' cls d e' s r => x.ex y δ' μ' h ρ' σ' H' cls d (e.transS e') s r⟩
/-- behind an expression -/
theorem FDOk.afterE {D' : FD} {D : Ends} (x : FDOk K W ρ μ δ H D' D) (h : Hold K ρ μ δ σ H) (e : Evo K (footM ρ μ) ρ H ρ1 μ1 H1 F) : FDOk K W ρ1 μ1 δ H1 D' D := x.after ((h.evoB e).less fun y => by omega)
/-- an exception out of an expression of a statement -/
theorem FDOk.xout {D' : FD} {D : Ends} (x : FDOk K W ρ μ δ H D' D) (h : Hold K ρ μ δ σ H) : XOut K W ρ μ σ H (fun y μ' => D'.ex y δ μ') := fun y μ' q ρ' H' cls d e r =>
  x.ex y δ μ' q ρ' σ H' cls d ((h.evoB e).less fun y => by omega) (h.after e).ss r
theorem Hold.mk' {B : Addr → Nat} (e : Evo K B ρ H ρ1 μ1 H1 (footS δ1)) (s : SS K ρ1 H1 δ1 σ1) : Hold K ρ1 μ1 δ1 σ1 H1 := ⟨e.sm, s, e.one⟩
end

/-! ### defs -/
/-- the promise that a def's denotation makes -/
def spOf (K : PySem.W.Frag) (g : FN) : Sp := fun vs H Q E => ∃ ρ μ ds C CE, SM K ρ μ H ∧ (∀ x, footM ρ μ x ≤ 1) ∧ Reps K ρ H ds vs ∧ g ds μ C CE ∧
  (∀ p μ', C p μ' → ∀ ρ' H' v, Evo K (footM ρ μ) ρ H ρ' μ' H' (footP p) → PR K ρ' H' p v → Q v H') ∧ (∀ x μ', CE x μ' → ∀ ρ' H' cls d, Evo K (footM ρ μ) ρ H ρ' μ' H' F0 → XR K ρ' H' x cls d → E cls d H')
/-- a def that stands at f keeps g, where no representation is under way -/
structure FnG (P : Program) (w : World) (K : PySem.W.Frag) (mg : Str → Option Value) (base : Heap) (k : Nat) (f : Addr) (g : FN) : Prop where
  kp : PySem.W.keepIn K (.ref f) = true
  run : ∀ (A : Around) (outer : List Env) (s : Shared) (H : Hp) (us : List Value) (vs : List V) (Q : VK) (E : XK), Room k A → A.guards = some [] → Env0 P w K mg base A outer s H → Vals vs us → spOf K g vs H Q E →
    codeAny (model P w) A (.call (.ref f) ⟨us, []⟩) (CR (L2.CX P w) outer P w H s Q E) s
theorem FnG.mono {P : Program} {w : World} {K : PySem.W.Frag} {mg : Str → Option Value} {base : Heap} {j k : Nat} {f : Addr} {g : FN} (F : FnG P w K mg base j f g) (h : j ≤ k) : FnG P w K mg base k f g :=
  ⟨F.kp, fun A outer s H us vs Q E hr => F.run A outer s H us vs Q E (hr.mono h)⟩
/-- a def's denotation by its body's: n parameters, m names -/
def fnDen (n m : Nat) (b : FS) : FN := fun ds μ C E => ds.length = n ∧
  b { nx := fun _ μ' => C (.val .non) μ', rt := fun p μ' => match p with | .bor _ (.slot _) => False | p => C p μ', bk := fun _ _ => False, ct := fun _ _ => False, ex := fun x _ μ' => E x μ' }
    (ds.map (fun d => some (P.val d)) ++ List.replicate (m - n) none) μ
theorem reps_len {K : PySem.W.Frag} {ρ : List Addr} {H : Hp} : ∀ {ds : List D} {vs : List V}, Reps K ρ H ds vs → ds.length = vs.length
  | [], _, h => by simp only [Reps] at h; subst h; rfl
  | d :: ds, _, h => by
    simp only [Reps] at h
    obtain ⟨v, r, rfl, _, h3⟩ := h
    simp [reps_len h3]
theorem reps_get {K : PySem.W.Frag} {ρ : List Addr} {H : Hp} : ∀ {ds : List D} {vs : List V} {i : Nat} {d : D}, Reps K ρ H ds vs → ds[i]? = some d → ∃ v, vs[i]? = some v ∧ Rep K ρ H d v
  | [], _, _, _, _, e => by simp at e
  | d :: ds, _, 0, _, h, e => by
    simp only [Reps] at h
    obtain ⟨v, r, rfl, h2, _⟩ := h
    simp at e
    subst e
    exact ⟨v, rfl, h2⟩
  | d :: ds, _, i + 1, _, h, e => by
    simp only [Reps] at h
    obtain ⟨v, r, rfl, _, h3⟩ := h
    obtain ⟨u, h4, h5⟩ := reps_get (i := i) h3 (by simpa using e)
    exact ⟨u, by simpa using h4, h5⟩
theorem foot_args (ds : List D) (k : Nat) (x : Addr) : footS (ds.map (fun d => some (P.val d)) ++ List.replicate k none) x = 0 := by
  induction ds with
  | nil =>
    simp only [List.map_nil, List.nil_append]
    induction k with
    | zero => rfl
    | succ k ih => rw [List.replicate_succ]; exact ih
  | cons d r ih =>
    simp only [List.map_cons, List.cons_append, footS, footP, ih]
theorem ss_args {K : PySem.W.Frag} {ρ : List Addr} {H : Hp} {N : List Str} {ds : List D} {vs : List V} (r : Reps K ρ H ds vs) : SS K ρ H (ds.map (fun d => some (P.val d)) ++ List.replicate (N.length - ds.length) none) (L2.start N vs) := by
  have hl := reps_len r
  refine ⟨by simp [L2.start, hl], fun i p e => ?_⟩
  by_cases hi : i < ds.length
  · rw [List.getElem?_append_left (by simpa using hi), List.getElem?_map] at e
    cases q : ds[i]? with
    | none => rw [q] at e; cases e
    | some d =>
      rw [q] at e
      simp at e
      subst e
      obtain ⟨v, h1, h2⟩ := reps_get r q
      refine ⟨v, ?_, h2⟩
      unfold L2.start
      rw [List.getElem?_append_left (by rw [List.length_map]; omega), List.getElem?_map, h1]
      rfl
  · rw [List.getElem?_append_right (by simpa using hi), List.getElem?_replicate] at e
    split at e <;> cases e

/-- THE RULE for a def: its body's denotation -/
theorem fnG_of {Pg : Program} {w : World} {K : PySem.W.Frag} {mg : Str → Option Value} {base : Heap} {k : Nat} {x qual : Str} {st : Stmt} {f : Addr} {fd : FuncData} {N ps : List Str} {b : FS} (Fu : Fun K x qual st f fd) (Sc : FnScope N ps (defScope st)) (hb : Binds K fd ps [])
    (hn : ps.length ≤ N.length)
    (body : ∀ (cd : Value) (A : Around) (outer : List Env) (s : Shared) (H : Hp) (E : XK), Room k (A.deeper (envOfC qual (defScope st) s.heap.objs.size f cd)) → A.guards = some [] →
      BF (cxOf (L2.CX Pg w) Pg w K mg base N qual (defScope st) f cd A outer s H E) (fun cls d _ H => E cls d H) (defBody st) b) :
    FnG Pg w K mg base (k + 1) f (fnDen ps.length N.length b) := by
  obtain ⟨oc, od, kV, doc, pm, an, cd, ct, osl, rfl, lk, hcd⟩ := Fu.ex
  refine ⟨Fu.kp, fun A outer s H us vs Q E room gu e0 vals sp => ?_⟩
  have inK : K.In s.heap := e0.mod.kin.keeps fun a o z => (e0.bs a o z).1
  have noLim : s.heap.NoLimit := e0.mod.nolimit.keeps fun a o z => (e0.bs a o z).1
  obtain ⟨ρ, μ, ds, C, XE, sm, one, rs, ⟨hl, hg⟩, hC, hE⟩ := sp
  have lv : vs.length = ps.length := by rw [← reps_len rs]; exact hl
  have lu : us.length = ps.length := by rw [← vals.length]; exact lv
  have bnd := hb s us inK (by rw [List.append_nil]; exact lu)
  rw [List.append_nil] at bnd
  have kinds : ∀ y ∈ ps.zip us, (defScope st).names.lookup y.1 = some .local ∨ ((defScope st).names.lookup y.1 = some .cell ∧ ((cellsFrom (s.heap.objs.size + 1) (defScope st).names []).lookup y.1).isSome = true) := by
    rintro ⟨n, v⟩ hy
    rcases Sc.par n (List.of_mem_zip hy).1 with q | q
    · exact .inl q
    · exact .inr ⟨q, PySem.W.cellsFrom_some _ _ _ (.inl q)⟩
  refine codeAny_call_function room.depth (inK _ _ lk) rfl Sc.co Sc.gen rfl (PySem.W.codeRec_of inK hcd) (bnd _ _ _ _ ?_)
  refine wpAny_newFunctionEnv_cells Sc.kind kinds fun env he s1 y => ?_
  subst he
  refine ⟨noLim.keeps y.toInCall.keep, codeAny_func ?_⟩
  have I := inv_start (CX := L2.CX Pg w) (E := E) Sc room.hd e0 lv vals y
  have hS : Hold K ρ μ (ds.map (fun d => some (P.val d)) ++ List.replicate (N.length - ps.length) none) (L2.start N vs) H := by
    rw [← hl]
    exact ⟨sm, ss_args rs, fun z => by rw [foot_args]; have := one z; omega⟩
  have low : ∀ {ρ' : List Addr} {μ' : Mu} {H' : Hp} {F : Addr → Nat}, Evo K (footB ρ μ (ds.map (fun d => some (P.val d)) ++ List.replicate (N.length - ps.length) none)) ρ H ρ' μ' H' F → Evo K (footM ρ μ) ρ H ρ' μ' H' F := fun {ρ' μ' H' F} e =>
    ⟨e.sm, e.ext, fun a o q z => e.keep a o q (by show footS _ a + footM ρ μ a = 0; rw [foot_args]; omega), fun z q => by
      rcases e.grow z q with t | t
      · have t' : 1 ≤ footS (ds.map (fun d => some (P.val d)) ++ List.replicate (N.length - ps.length) none) z + footM ρ μ z := t
        rw [foot_args] at t'
        exact .inl (by omega)
      · exact .inr t, e.one⟩
  have run := (body cd A outer s H E (room.deeper _) gu).run [] s1 (L2.start N vs) H { nx := fun _ H' => Q .non H', rt := Q } I ⟨ρ, μ, ds.map (fun d => some (P.val d)) ++ List.replicate (N.length - ps.length) none, { nx := fun _ μ' => C (.val .non) μ', rt := fun p μ' => match p with | .bor _ (.slot _) => False | p => C p μ', bk := fun _ _ => False, ct := fun _ _ => False, ex := fun x _ μ' => XE x μ' }, hS, hg, fun δ' μ' c ρ' σ' H' e _ => hC (.val .non) μ' c ρ' H' .non ((low e).less fun z => by simp [footP]) rfl, fun _ _ c => c.elim, fun _ _ c => c.elim, fun p μ' c ρ' H' v e r => ?_,
    fun y δ' μ' c ρ' σ' H' cls d e _ r => hE y μ' c ρ' H' cls d (low e).drop r⟩
  · refine wpAny_mono run (fun fl s' hs => ?_) fun e s' hs => hs
    have fin : ∀ {σ' : L2.St} {H' : Hp} {v : V} {u : Value}, Inv (cxOf (L2.CX Pg w) Pg w K mg base N qual (defScope st) f cd A outer s H E) [] σ' H' s' → RelV v u → Q v H' → CE outer Pg w H s Q u s' :=
      fun {σ' H' v u} J rv q => ⟨v, H', J.os, J.bare, J.base, J.hok, rv, q⟩
    cases fl with
    | next =>
      obtain ⟨σ', H', J, q⟩ := hs
      exact fin (v := V.non) (u := Value.none) J rfl q
    | ret u =>
      obtain ⟨v, σ', H', J, rv, q⟩ := hs
      exact fin J rv q
    | cont =>
      obtain ⟨_, _, _, q⟩ := hs
      exact q.elim
    | brk =>
      obtain ⟨_, _, _, q⟩ := hs
      exact q.elim
  · cases p with
    | val d => exact hC _ μ' c ρ' H' v (low e) r
    | own a l => exact hC _ μ' c ρ' H' v (low e) r
    | bor a pl =>
      cases pl with
      | slot i => exact c.elim
      | fld n g => exact hC _ μ' c ρ' H' v (low e) r
end NT

/-! NT: expressions: constants, names, operators, comparisons, tests, subscripts, displays. -/
namespace NT
open PySem PySem.Spec PyProof.Rows L2

/-! ### what is read of a list -/
def lget (δ : Sl) (μ : Mu) : P → Option (List D)
  | .val (.lst ds) => some ds
  | .val (.kls ds) => some ds
  | .val (.ref n) => match μ[n]? with
    | some (.lst ds) => some ds
    | _ => none
  | .own _ ds => some ds
  | .bor a (.slot i) => match δ[i]? with
    | some (some (.own b ds)) => if b = a then some ds else none
    | _ => none
  | .bor a (.fld n f) => match μ[n]? with
    | some (.ins _ fs) => match fs.lookup f with
      | some (.own b ds) => if b = a then some ds else none
      | _ => none
    | _ => none
  | _ => none
/-- .. of one that no module holds -/
def lgetR (δ : Sl) (μ : Mu) : P → Option (List D)
  | .val (.kls _) => none
  | p => lget δ μ p
section
variable {K : PySem.W.Frag} {W : WX} {ρ ρ1 ρ2 : List Addr} {μ μ1 μ2 : Mu} {δ δ1 : Sl} {σ σ1 : L2.St} {H H1 H2 : Hp} {F : Addr → Nat} {E : CX}
theorem fs_lookup : ∀ {fs : List (Str × P)} {vs : List (Str × V)} {f : Str} {p : P}, FsR K ρ H fs vs → fs.lookup f = some p → ∃ v, vs.lookup f = some v ∧ PR K ρ H p v
  | [], _, _, _, _, e => by simp at e
  | (g, q) :: r, vs, f, p, h, e => by
    obtain ⟨v, t, rfl, h2, h3⟩ := h
    rw [List.lookup_cons] at e ⊢
    cases hb : f == g with
    | true =>
      rw [hb] at e
      cases e
      exact ⟨v, rfl, h2⟩
    | false =>
      rw [hb] at e
      exact fs_lookup h3 e
theorem fs_none : ∀ {fs : List (Str × P)} {vs : List (Str × V)} {f : Str}, FsR K ρ H fs vs → fs.lookup f = none → vs.lookup f = none
  | [], _, _, h, _ => by
    have h' := h
    simp only [FsR] at h'
    subst h'
    rfl
  | (g, q) :: r, vs, f, h, e => by
    obtain ⟨v, t, rfl, h2, h3⟩ := h
    rw [List.lookup_cons] at e ⊢
    cases hb : f == g with
    | true => rw [hb] at e; cases e
    | false =>
      rw [hb] at e
      exact fs_none h3 e
theorem lget_rd (sm : SM K ρ μ H) (ss : SS K ρ H δ σ) {p : P} {x : V} {ds : List D} (r : PR K ρ H p x) (e : lget δ μ p = some ds) : ∃ a xs, x = .ref a ∧ SqL K H a xs ∧ Reps K ρ H ds xs ∧ ((∀ l, p ≠ .val (.kls l)) → Rd H a (.lst xs)) := by
  cases p with
  | val d =>
    cases d with
    | lst l =>
      simp only [lget] at e
      cases e
      simp only [PR, Rep] at r
      obtain ⟨a, xs, o, h1, h2, h3⟩ := r
      exact ⟨a, xs, h1, .inl (.inr ⟨o, h2⟩), h3, fun _ => .inr ⟨o, h2⟩⟩
    | kls l =>
      simp only [lget] at e
      cases e
      simp only [PR, Rep] at r
      obtain ⟨a, xs, h1, h2, h3⟩ := r
      exact ⟨a, xs, h1, h2.seq, h3, fun z => absurd rfl (z ds)⟩
    | ref n =>
      simp only [lget] at e
      simp only [PR, Rep] at r
      obtain ⟨a, h1, h2⟩ := r
      cases q : μ[n]? with
      | none => rw [q] at e; cases e
      | some o =>
        rw [q] at e
        cases o with
        | lst l =>
          cases e
          obtain ⟨b, h3, xs, h4, h5⟩ := sm.obj n _ q
          rw [h2] at h3
          cases h3
          exact ⟨a, xs, h1, .inl (.inl h4), h5, fun _ => .inl h4⟩
        | _ => cases e
    | _ => cases e
  | own a l =>
    simp only [lget] at e
    cases e
    obtain ⟨h1, xs, h2, h3⟩ := r
    exact ⟨a, xs, h1, .inl (.inl h2), h3, fun _ => .inl h2⟩
  | bor a pl =>
    have r' : x = .ref a := r
    cases pl with
    | slot i =>
      simp only [lget] at e
      split at e
      · rename_i b l q
        split at e
        · rename_i hb
          cases e
          subst hb
          obtain ⟨v, h1, h2, xs, h3, h4⟩ := ss.at_ i _ q
          exact ⟨b, xs, r', .inl (.inl h3), h4, fun _ => .inl h3⟩
        · cases e
      · cases e
    | fld n f =>
      simp only [lget] at e
      split at e
      · rename_i C fs q
        split at e
        · rename_i b l q2
          split at e
          · rename_i hb
            cases e
            subst hb
            obtain ⟨c, h1, dx, vs, h2, h3⟩ := sm.obj n _ q
            obtain ⟨v, h4, h5, xs, h6, h7⟩ := fs_lookup h3 q2
            exact ⟨b, xs, r', .inl (.inl h6), h7, fun _ => .inl h6⟩
          · cases e
        · cases e
      · cases e
theorem lget_ok (h : Hold K ρ μ δ σ H) {p : P} {x : V} {ds : List D} (r : PR K ρ H p x) (e : lget δ μ p = some ds) : ∃ a xs, x = .ref a ∧ SqL K H a xs ∧ Reps K ρ H ds xs := by
  obtain ⟨a, xs, h1, h2, h3, _⟩ := lget_rd h.sm h.ss r e
  exact ⟨a, xs, h1, h2, h3⟩
theorem lgetR_ok (h : Hold K ρ μ δ σ H) {p : P} {x : V} {ds : List D} (r : PR K ρ H p x) (e : lgetR δ μ p = some ds) : ∃ a xs, x = .ref a ∧ Rd H a (.lst xs) ∧ Reps K ρ H ds xs := by
  have q : lget δ μ p = some ds ∧ ∀ l, p ≠ .val (.kls l) := by
    unfold lgetR at e
    split at e
    · cases e
    · rename_i hn
      exact ⟨e, hn⟩
  obtain ⟨a, xs, h1, _, h3, h4⟩ := lget_rd h.sm h.ss r q.1
  exact ⟨a, xs, h1, h4 q.2, h3⟩
/-- a result that is a value of the state as it is -/
theorem Hold.val (h : Hold K ρ μ δ σ H) {p : P} (e : ∀ x, footP p x = 0) : Evo K (footM ρ μ) ρ H ρ μ H (footP p) := h.refl.less fun x => by rw [e x]; exact Nat.zero_le _
end

/-! ### constants and names -/
def eVal (d : D) : FE := fun _ μ C _ => C (.val d) μ
def eVar (i : Nat) : FE := fun δ μ C _ => match δ[i]? with
  | some (some (.own a _)) => C (.bor a (.slot i)) μ
  | some (some p) => C p μ
  | _ => False
section
variable {X : Cx} {W : WX} {pos : Pos}
theorem e_val {e : Expr} {d : D} {v : V} (h : PE X e (tC v)) (r : ∀ ρ H, Rep X.K ρ H d v) : EF X W e (eVal d) := pe_imp h fun σ H Q ⟨ρ, μ, δ, C, E, ho, c, hC, _⟩ => hC _ _ c ρ H v (ho.val fun _ => rfl) (r ρ H)
theorem e_int {i : Int} {j : Nat} : EF X W (.Constant (.int i) j pos) (eVal (.int i)) := e_val pe_int fun _ _ => rfl
theorem e_bl {b : Bool} {j : Nat} : EF X W (.Constant (.bool b) j pos) (eVal (.bl b)) := e_val pe_bl fun _ _ => rfl
theorem e_non {j : Nat} : EF X W (.Constant .none j pos) (eVal .non) := e_val pe_non fun _ _ => rfl
theorem e_str {x : Str} {j : Nat} : EF X W (.Constant (.str x) j pos) (eVal (.str x)) := e_val pe_str fun _ _ => rfl
theorem ev_var {K : PySem.W.Frag} {σ : L2.St} {H : Hp} {i : Nat} {Q : VK} (h : liftE K W (eVar i) σ H Q) : tVar i σ H Q := by
  obtain ⟨ρ, μ, δ, C, E, ho, c, hC, _⟩ := h
  simp only [eVar] at c
  split at c
  · rename_i a ds q
    obtain ⟨v, h1, h2, h3⟩ := ho.ss.at_ i _ q
    exact ⟨v, h1, hC _ _ c ρ H v (ho.val fun _ => rfl) h2⟩
  · rename_i p hne q
    obtain ⟨v, h1, h2⟩ := ho.ss.at_ i _ q
    refine ⟨v, h1, hC _ _ c ρ H v (ho.val fun x => ?_) h2⟩
    cases p with
    | own a ds => exact absurd rfl (hne a ds)
    | _ => rfl
  · exact c.elim
theorem e_var (i : Nat) {x : Str} (hN : X.N[i]? = some x := by rfl) (hv : Vis X.env.scope x := by first | exact Or.inl rfl | exact Or.inr (Or.inl rfl) | exact Or.inr (Or.inr rfl)) (hd : (x == ("__debug__" : Str)) = false := by decide)
    (hcd : (x == ("__classdict__" : Str)) = false := by decide) : EF X W (.Name x pos) (eVar i) := pe_imp (pv i hN hv hd hcd) fun _ _ _ h => ev_var h
/-- a module's constant -/
theorem e_glob {x : Str} {d : D} {v : V} {u : Value} (hg : Gl X x) (hm : X.mg x = some u) (r : RelV v u) (rp : ∀ ρ H, Rep X.K ρ H d v) (hd : (x == ("__debug__" : Str)) = false := by decide) : EF X W (.Name x pos) (eVal d) := e_val (pe_glob hg hm r hd) rp
end

/-! ### two places, one place -/
abbrev M2 := P → P → Sl → Mu → (P → Mu → Prop) → Prop
abbrev M1 := P → Sl → Mu → (P → Mu → Prop) → Prop
def Br2 (K : PySem.W.Frag) (r : R2) (m : M2) : Prop := ∀ ρ μ δ σ H p q x y C Q, Hold K ρ μ δ σ H → PR K ρ H p x → PR K ρ H q y → (∀ z, footP p z + footP q z + footM ρ μ z ≤ 1) → m p q δ μ C →
  (∀ p' μ', C p' μ' → ∀ ρ' H' v, Evo K (footM ρ μ) ρ H ρ' μ' H' (footP p') → PR K ρ' H' p' v → Q v H') → r x y H Q
def Br1 (K : PySem.W.Frag) (r : V → Hp → VK → Prop) (m : M1) : Prop := ∀ ρ μ δ σ H p x C Q, Hold K ρ μ δ σ H → PR K ρ H p x → (∀ z, footP p z + footM ρ μ z ≤ 1) → m p δ μ C →
  (∀ p' μ', C p' μ' → ∀ ρ' H' v, Evo K (footM ρ μ) ρ H ρ' μ' H' (footP p') → PR K ρ' H' p' v → Q v H') → r x H Q
def eOp2 (m : M2) (a b : FE) : FE := fun δ μ C E => a δ μ (fun p μ1 => b δ μ1 (fun q μ2 => m p q δ μ2 C) E) E
def eOp1 (m : M1) (a : FE) : FE := fun δ μ C E => a δ μ (fun p μ1 => m p δ μ1 C) E
section
variable {X : Cx} {W : WX} {pos : Pos} {a b : Expr} {fa fb : FE}
theorem op2_lift {K : PySem.W.Frag} {r : R2} {m : M2} (br : Br2 K r m) {σ : L2.St} {H : Hp} {Q : VK} (h : liftE K W (eOp2 m fa fb) σ H Q) : tOp r (liftE K W fa) (liftE K W fb) σ H Q := by
  obtain ⟨ρ, μ, δ, C, E, ho, c, hC, hX⟩ := h
  refine ⟨ρ, μ, δ, _, E, ho, c, fun p μ1 c1 ρ1 H1 v1 e1 r1 => ?_, hX⟩
  have ho1 := ho.after e1
  refine ⟨ρ1, μ1, δ, _, E, ho1, c1, fun q μ2 c2 ρ2 H2 v2 e2 r2 => ?_, hX.after e1⟩
  obtain ⟨r1', ap⟩ := e1.wait r1 e2
  exact br ρ2 μ2 δ σ H2 p q v1 v2 C Q (ho1.after e2) r1' r2 ap c2 fun p' μ' c3 ρ3 H3 v3 e3 r3 => hC p' μ' c3 ρ3 H3 v3 ((e1.transM e2).transM e3) r3
theorem op1_lift {K : PySem.W.Frag} {r : V → Hp → VK → Prop} {m : M1} (br : Br1 K r m) {σ : L2.St} {H : Hp} {Q : VK} (h : liftE K W (eOp1 m fa) σ H Q) : liftE K W fa σ H (fun x H1 => r x H1 Q) := by
  obtain ⟨ρ, μ, δ, C, E, ho, c, hC, hX⟩ := h
  refine ⟨ρ, μ, δ, _, E, ho, c, fun p μ1 c1 ρ1 H1 v1 e1 r1 => ?_, hX⟩
  exact br ρ1 μ1 δ σ H1 p v1 C Q (ho.after e1) r1 e1.one c1 fun p' μ' c3 ρ3 H3 v3 e3 r3 => hC p' μ' c3 ρ3 H3 v3 (e1.transM e3) r3
theorem e_bin {op : Operator} {r : R2} {m : M2} (ho : OpR X (binaryOp op) r) (br : Br2 X.K r m) (ha : EF X W a fa) (hb : EF X W b fb) : EF X W (.BinOp a op b pos) (eOp2 m fa fb) := pe_imp (pe_op ho ha hb) fun _ _ _ h => op2_lift br h
theorem e_cmp {op : CmpOp} {r : R2} {m : M2} (ho : OpR X (compareOp op) r) (br : Br2 X.K r m) (ha : EF X W a fa) (hb : EF X W b fb) (hm : behindInMarks op b = false) : EF X W (.Compare a [op] [b] pos) (eOp2 m fa fb) := pe_imp (pe_cmpR ho ha hb hm) fun _ _ _ h => op2_lift br h
theorem e_un {op : UnaryOp} {r : V → Hp → VK → Prop} {m : M1} (ho : UnR X (unaryOp op) r) (br : Br1 X.K r m) (ha : EF X W a fa) : EF X W (.UnaryOp op a pos) (eOp1 m fa) := pe_imp (pe_un ho ha) fun _ _ _ h => op1_lift br h
end
end NT

/-! NT: the operators on trees. -/
namespace NT
open PySem PySem.Spec PyProof.Rows L2

section
variable {K : PySem.W.Frag} {W : WX} {ρ ρ1 ρ2 : List Addr} {μ μ1 μ2 : Mu} {δ δ1 : Sl} {σ σ1 : L2.St} {H H1 H2 : Hp} {F : Addr → Nat} {E : CX}
theorem reps_app : ∀ {ds es : List D} {xs ys : List V}, Reps K ρ H ds xs → Reps K ρ H es ys → Reps K ρ H (ds ++ es) (xs ++ ys)
  | [], _, _, _, h, q => by
    simp only [Reps] at h
    subst h
    exact q
  | d :: ds, es, _, ys, h, q => by
    simp only [Reps] at h
    obtain ⟨v, r, rfl, h2, h3⟩ := h
    simp only [List.cons_append, Reps]
    exact ⟨v, r ++ ys, rfl, h2, reps_app h3 q⟩
theorem reps_nil : Reps K ρ H [] [] := by simp only [Reps]
theorem reps_cons {d : D} {v : V} {ds : List D} {vs : List V} (a : Rep K ρ H d v) (b : Reps K ρ H ds vs) : Reps K ρ H (d :: ds) (v :: vs) := by
  simp only [Reps]
  exact ⟨v, vs, rfl, a, b⟩
/-- a new list that stands alone -/
theorem Hold.newList (h : Hold K ρ μ δ σ H) {a : Addr} {ds : List D} {xs : List V} (n : H a = none) (r : Reps K ρ H ds xs) : Evo K (footM ρ μ) ρ H ρ μ (upd H a (.lst xs)) (footP (.own a ds)) ∧ PR K ρ (upd H a (.lst xs)) (.own a ds) (.ref a) :=
  ⟨Evo.new h.sm h.le n, rfl, xs, upd_same, r.stay (fun b u q _ => stay_new n b u q) (Ext.refl ρ)⟩
theorem Hold.newTup (h : Hold K ρ μ δ σ H) {a : Addr} {ds : List D} {xs : List V} (n : H a = none) (r : Reps K ρ H ds xs) : Evo K (footM ρ μ) ρ H ρ μ (upd H a (.tup xs)) (footP (.val (.tup ds))) ∧ PR K ρ (upd H a (.tup xs)) (.val (.tup ds)) (.ref a) := by
  refine ⟨(Evo.new h.sm h.le n).drop, ?_⟩
  simp only [PR, Rep]
  exact ⟨a, xs, rfl, .inl upd_same, r.stay (fun b u q _ => stay_new n b u q) (Ext.refl ρ)⟩
theorem pr_tup {ds : List D} {v : V} (h : PR K ρ H (.val (.tup ds)) v) : ∃ a xs, v = .ref a ∧ SqU K H a xs ∧ Reps K ρ H ds xs := by
  simpa only [PR, Rep] using h
theorem pr_int {i : Int} {v : V} (h : PR K ρ H (.val (.int i)) v) : v = .int i := by simpa only [PR, Rep] using h
theorem pr_bl {i : Bool} {v : V} (h : PR K ρ H (.val (.bl i)) v) : v = .bl i := by simpa only [PR, Rep] using h
theorem pr_str {i : Str} {v : V} (h : PR K ρ H (.val (.str i)) v) : v = .str i := by simpa only [PR, Rep] using h
theorem pr_non {v : V} (h : PR K ρ H (.val .non) v) : v = .non := by simpa only [PR, Rep] using h
end

/-! ### + - * // % -/
/-- lists that are tracked or locked -/
def rCatR : R2 := fun x y H Q => ∃ a b xs ys, x = .ref a ∧ y = .ref b ∧ Rd H a (.lst xs) ∧ Rd H b (.lst ys) ∧ xs.length + ys.length ≤ sizeLine ∧ ∀ p, H p = none → Q (.ref p) (upd H p (.lst (xs ++ ys)))
theorem rd_isL {X : Cx} {pins : List (Addr × Obj)} {σ : L2.St} {H : Hp} {s : Shared} {a : Addr} {xs : List V} (I : Inv X pins σ H s) (h : Rd H a (.lst xs)) :
    xs.length ≤ sizeLine ∧ ∃ (its : List Value) (n : Nat), Vals xs its ∧ s.heap.get? a = some { cls := .type "list", data := .seq its.toArray n } := h.ok I.hok
theorem op_catR {X : Cx} : OpR X (binaryOp .Add) rCatR := by
  intro pins s σ H x y v u Q I rx ry h
  obtain ⟨a, b, xs, ys, rfl, rfl, hA, hB, hz, q⟩ := h
  obtain rfl : v = .ref a := rx
  obtain rfl : u = .ref b := ry
  obtain ⟨z1, i1, n1, r1, g1⟩ := rd_isL I hA
  obtain ⟨z2, i2, n2, r2, g2⟩ := rd_isL I hB
  have l1 := r1.length
  have l2 := r2.length
  refine PySem.P.add_list g1 g2 ?_ (by simp only [List.size_toArray]; omega)
  rw [show i1.toArray ++ i2.toArray = (i1 ++ i2).toArray by simp]
  exact ⟨.ref s.heap.objs.size, _, I.lnew (t' := s.toks) (r1.append r2) (by simp only [List.length_append]; omega), rfl, q _ I.fresh⟩
def rAddN (K : PySem.W.Frag) : R2 := fun x y H Q => rI0 (fun i j => .int (i + j)) x y H Q ∨ (∃ i j, x = .str i ∧ y = .str j ∧ i.length + j.length ≤ sizeLine ∧ Q (.str (i ++ j)) H) ∨ rCatA K x y H Q ∨ rCatR x y H Q
theorem op_addN {X : Cx} : OpR X (binaryOp .Add) (rAddN X.K) := op_add.or (op_add_str.or (op_catA.or op_catR))
def addM : M2 := fun p q δ μ C => match p, q with
  | .val (.int i), .val (.int j) => C (.val (.int (i + j))) μ
  | .val (.str a), .val (.str b) => a.length + b.length ≤ sizeLine ∧ C (.val (.str (a ++ b))) μ
  | .val (.tup xs), .val (.tup ys) => xs.length + ys.length ≤ sizeLine ∧ C (.val (.tup (xs ++ ys))) μ
  | p, q => match lgetR δ μ p, lgetR δ μ q with
    | some xs, some ys => xs.length + ys.length ≤ sizeLine ∧ ∀ a, C (.own a (xs ++ ys)) μ
    | _, _ => False
theorem br_add {K : PySem.W.Frag} : Br2 K (rAddN K) addM := by
  intro ρ μ δ σ H p q x y C Q ho rp rq ap c hC
  unfold addM at c
  split at c
  · rename_i i j
    exact .inl ⟨i, j, pr_int rp, pr_int rq, hC _ _ c ρ H _ (ho.val fun _ => rfl) (by simp only [PR, Rep])⟩
  · rename_i i j
    exact .inr (.inl ⟨i, j, pr_str rp, pr_str rq, c.1, hC _ _ c.2 ρ H _ (ho.val fun _ => rfl) (by simp only [PR, Rep])⟩)
  · rename_i ds es
    obtain ⟨a, xs, e1, e2, e3⟩ := pr_tup rp
    obtain ⟨b, ys, g1, g2, g3⟩ := pr_tup rq
    have l1 := reps_len e3
    have l2 := reps_len g3
    refine .inr (.inr (.inl ⟨a, b, xs, ys, e1, g1, e2.seq, g2.seq, by omega, fun z => ?_, fun z z2 => ?_, fun z z2 p np => ?_⟩))
    · have : ds = [] := List.eq_nil_of_length_eq_zero (by rw [l1, z]; rfl)
      subst this
      refine hC _ _ c.2 ρ H _ (ho.val fun _ => rfl) ?_
      simp only [PR, Rep]
      exact ⟨b, ys, rfl, g2, g3⟩
    · have : es = [] := List.eq_nil_of_length_eq_zero (by rw [l2, z2]; rfl)
      subst this
      refine hC _ _ c.2 ρ H _ (ho.val fun _ => rfl) ?_
      simp only [PR, Rep]
      exact ⟨a, xs, rfl, e2, by rw [List.append_nil]; exact e3⟩
    · obtain ⟨ev, rp'⟩ := ho.newTup np (reps_app e3 g3)
      exact hC _ _ c.2 _ _ _ ev rp'
  · split at c
    · rename_i xs ys h1 h2
      obtain ⟨a, vs, e1, e2, e3⟩ := lgetR_ok ho rp h1
      obtain ⟨b, ws, g1, g2, g3⟩ := lgetR_ok ho rq h2
      have l1 := reps_len e3
      have l2 := reps_len g3
      refine .inr (.inr (.inr ⟨a, b, vs, ws, e1, g1, e2, g2, by omega, fun p np => ?_⟩))
      obtain ⟨ev, rp'⟩ := ho.newList np (reps_app e3 g3)
      exact hC _ _ (c.2 p) _ _ _ ev rp'
    · exact c.elim
/-- ints to an int, under a guard -/
def intM (G : Int → Int → Prop) (g : Int → Int → Int) : M2 := fun p q _ μ C => match p, q with
  | .val (.int i), .val (.int j) => G i j ∧ C (.val (.int (g i j))) μ
  | _, _ => False
def cmpM (g : Int → Int → Bool) : M2 := fun p q _ μ C => match p, q with
  | .val (.int i), .val (.int j) => C (.val (.bl (g i j))) μ
  | _, _ => False
theorem br_int {K : PySem.W.Frag} {G : Int → Int → Prop} {g : Int → Int → Int} : Br2 K (rI G fun i j => .int (g i j)) (intM G g) := by
  intro ρ μ δ σ H p q x y C Q ho rp rq ap c hC
  unfold intM at c
  split at c
  · exact ⟨_, _, pr_int rp, pr_int rq, c.1, hC _ _ c.2 ρ H _ (ho.val fun _ => rfl) (by simp only [PR, Rep])⟩
  · exact c.elim
theorem br_cmp {K : PySem.W.Frag} {g : Int → Int → Bool} : Br2 K (rI0 fun i j => .bl (g i j)) (cmpM g) := by
  intro ρ μ δ σ H p q x y C Q ho rp rq ap c hC
  unfold cmpM at c
  split at c
  · exact ⟨_, _, pr_int rp, pr_int rq, hC _ _ c ρ H _ (ho.val fun _ => rfl) (by simp only [PR, Rep])⟩
  · exact c.elim
def subM : M2 := fun p q _ μ C => match p, q with
  | .val (.int i), .val (.int j) => C (.val (.int (i - j))) μ
  | _, _ => False
theorem br_sub {K : PySem.W.Frag} : Br2 K (rI0 fun i j => .int (i - j)) subM := by
  intro ρ μ δ σ H p q x y C Q ho rp rq ap c hC
  unfold subM at c
  split at c
  · exact ⟨_, _, pr_int rp, pr_int rq, hC _ _ c ρ H _ (ho.val fun _ => rfl) (by simp only [PR, Rep])⟩
  · exact c.elim
/-- a product that is not too long -/
def MulOk (i j : Int) : Prop := CMul i j ∨ CMulW i j
theorem op_mulN {X : Cx} : OpR X (binaryOp .Mult) (rI MulOk fun i j => .int (i * j)) := by
  intro pins s σ H x y v u Q I rx ry h
  obtain ⟨i, j, e1, e2, hc, q⟩ := h
  rcases hc with hc | hc
  · exact op_mul pins s σ H x y v u Q I rx ry ⟨i, j, e1, e2, hc, q⟩
  · exact op_mulW pins s σ H x y v u Q I rx ry ⟨i, j, e1, e2, hc, q⟩
theorem mulOk_l {i j : Int} (h1 : -(2 ^ 64) < i) (h2 : i < 2 ^ 64) : MulOk i j := .inl (.inl ⟨h1, h2⟩)
theorem mulOk_r {i j : Int} (h1 : -(2 ^ 64) < j) (h2 : j < 2 ^ 64) : MulOk i j := .inl (.inr ⟨h1, h2⟩)
/-- a list times an int, a tuple times an int -/
def rMulN : R2 := fun x y H Q => rI MulOk (fun i j => .int (i * j)) x y H Q ∨ rRep x y H Q
theorem op_mulA {X : Cx} : OpR X (binaryOp .Mult) rMulN := op_mulN.or op_rep
def mulM : M2 := fun p q _ μ C => match p, q with
  | .val (.int i), .val (.int j) => MulOk i j ∧ C (.val (.int (i * j))) μ
  | .own _ xs, .val (.int k) => (-(2 ^ 63) ≤ k ∧ k < 2 ^ 63 ∧ xs.length * k.toNat ≤ sizeLine) ∧ ∀ b, C (.own b (List.replicate k.toNat xs).flatten) μ
  | _, _ => False
theorem reps_rep {K : PySem.W.Frag} {ρ : List Addr} {H : Hp} {ds : List D} {xs : List V} (h : Reps K ρ H ds xs) : ∀ k : Nat, Reps K ρ H (List.replicate k ds).flatten (List.replicate k xs).flatten
  | 0 => by simpa using reps_nil
  | k + 1 => by
    rw [List.replicate_succ, List.replicate_succ, List.flatten_cons, List.flatten_cons]
    exact reps_app h (reps_rep h k)
theorem br_mul {K : PySem.W.Frag} : Br2 K rMulN mulM := by
  intro ρ μ δ σ H p q x y C Q ho rp rq ap c hC
  unfold mulM at c
  split at c
  · exact .inl ⟨_, _, pr_int rp, pr_int rq, c.1, hC _ _ c.2 ρ H _ (ho.val fun _ => rfl) (by simp only [PR, Rep])⟩
  · rename_i a ds k
    obtain ⟨e1, xs, e2, e3⟩ := rp
    have l := reps_len e3
    obtain ⟨⟨c1, c2, c3⟩, c4⟩ := c
    refine .inr ⟨a, k, xs, e1, pr_int rq, e2, c1, c2, by rw [← l]; exact c3, fun p np => ?_⟩
    obtain ⟨ev, rp'⟩ := ho.newList np (reps_rep e3 k.toNat)
    exact hC _ _ (c4 p) _ _ _ ev rp'
  · exact c.elim
/-- a divisor -/
def DivOk (j : Int) : Prop := 0 < j ∧ j.natAbs.log2 < 9000
theorem divOk_of {j : Int} (h1 : 0 < j) (h2 : j < 2 ^ 64) : DivOk j := ⟨h1, Nat.lt_of_lt_of_le (PySem.Flt.log2_lt_of (k := 64) (by decide) (by omega)) (by decide)⟩
theorem op_fdivO {X : Cx} : OpR X (binaryOp .FloorDiv) (rI (fun _ j => DivOk j) fun i j => .int (i / j)) := op_fdivW
def fdivM : M2 := intM (fun _ j => DivOk j) fun i j => i / j
def modM : M2 := intM (fun _ j => 0 < j) fun i j => i % j
section
variable {X : Cx} {W : WX} {pos : Pos} {a b : Expr} {fa fb : FE}
theorem e_add (ha : EF X W a fa) (hb : EF X W b fb) : EF X W (.BinOp a .Add b pos) (eOp2 addM fa fb) := e_bin op_addN br_add ha hb
theorem e_sub (ha : EF X W a fa) (hb : EF X W b fb) : EF X W (.BinOp a .Sub b pos) (eOp2 subM fa fb) := e_bin op_sub br_sub ha hb
theorem e_mul (ha : EF X W a fa) (hb : EF X W b fb) : EF X W (.BinOp a .Mult b pos) (eOp2 mulM fa fb) := e_bin op_mulA br_mul ha hb
theorem e_fdiv (ha : EF X W a fa) (hb : EF X W b fb) : EF X W (.BinOp a .FloorDiv b pos) (eOp2 fdivM fa fb) := e_bin op_fdivO br_int ha hb
theorem e_mod (ha : EF X W a fa) (hb : EF X W b fb) : EF X W (.BinOp a .Mod b pos) (eOp2 modM fa fb) := e_bin op_mod br_int ha hb
theorem e_lt (ha : EF X W a fa) (hb : EF X W b fb) : EF X W (.Compare a [.Lt] [b] pos) (eOp2 (cmpM fun i j => decide (i < j)) fa fb) := e_cmp op_lt br_cmp ha hb (nomark b)
theorem e_le (ha : EF X W a fa) (hb : EF X W b fb) : EF X W (.Compare a [.LtE] [b] pos) (eOp2 (cmpM fun i j => decide (i ≤ j)) fa fb) := e_cmp op_le br_cmp ha hb (nomark b)
theorem e_gt (ha : EF X W a fa) (hb : EF X W b fb) : EF X W (.Compare a [.Gt] [b] pos) (eOp2 (cmpM fun i j => decide (j < i)) fa fb) := e_cmp op_gt br_cmp ha hb (nomark b)
theorem e_ge (ha : EF X W a fa) (hb : EF X W b fb) : EF X W (.Compare a [.GtE] [b] pos) (eOp2 (cmpM fun i j => decide (j ≤ i)) fa fb) := e_cmp op_ge br_cmp ha hb (nomark b)
end
/-! ### - not, is None -/
def negM : M1 := fun p _ μ C => match p with
  | .val (.int i) => C (.val (.int (-i))) μ
  | _ => False
theorem br_neg {K : PySem.W.Frag} : Br1 K (rU fun i => .int (-i)) negM := by
  intro ρ μ δ σ H p x C Q ho rp ap c hC
  unfold negM at c
  split at c
  · exact ⟨_, pr_int rp, hC _ _ c ρ H _ (ho.val fun _ => rfl) (by simp only [PR, Rep])⟩
  · exact c.elim
def isN : P → Bool
  | .val .non => true
  | _ => false
def isnM (neg : Bool) : M2 := fun p q _ μ C => match q with
  | .val .non => C (.val (.bl (if neg then !isN p else isN p))) μ
  | _ => False
theorem isN_ok {K : PySem.W.Frag} {ρ : List Addr} {H : Hp} {p : P} {x : V} (r : PR K ρ H p x) : decide (x = .non) = isN p := by
  cases p with
  | val d =>
    cases d with
    | non => rw [pr_non r]; rfl
    | bl b => rw [pr_bl r]; rfl
    | int b => rw [pr_int r]; rfl
    | str b => rw [pr_str r]; rfl
    | tup b =>
      obtain ⟨a, xs, e, _⟩ := pr_tup r
      rw [e]; rfl
    | lst b =>
      simp only [PR, Rep] at r
      obtain ⟨a, xs, o, e, _⟩ := r
      rw [e]; rfl
    | kls b =>
      simp only [PR, Rep] at r
      obtain ⟨a, xs, e, _⟩ := r
      rw [e]; rfl
    | ref n =>
      simp only [PR, Rep] at r
      obtain ⟨a, e, _⟩ := r
      rw [e]; rfl
  | own a ds => rw [r.1]; rfl
  | bor a pl =>
    obtain rfl : x = .ref a := r
    rfl
theorem br_isn {K : PySem.W.Frag} : Br2 K (fun x y H Q => y = .non ∧ Q (.bl (decide (x = .non))) H) (isnM false) := by
  intro ρ μ δ σ H p q x y C Q ho rp rq ap c hC
  unfold isnM at c
  split at c
  · refine ⟨pr_non rq, hC _ _ c ρ H _ (ho.val fun _ => rfl) ?_⟩
    simp only [PR, Rep]
    rw [isN_ok rp]
    rfl
  · exact c.elim
theorem br_notn {K : PySem.W.Frag} : Br2 K (fun x y H Q => y = .non ∧ Q (.bl (!decide (x = .non))) H) (isnM true) := by
  intro ρ μ δ σ H p q x y C Q ho rp rq ap c hC
  unfold isnM at c
  split at c
  · refine ⟨pr_non rq, hC _ _ c ρ H _ (ho.val fun _ => rfl) ?_⟩
    simp only [PR, Rep]
    rw [isN_ok rp]
    rfl
  · exact c.elim
section
variable {X : Cx} {W : WX} {pos : Pos} {a b : Expr} {fa fb : FE}
theorem e_neg (ha : EF X W a fa) : EF X W (.UnaryOp .USub a pos) (eOp1 negM fa) := e_un un_neg br_neg ha
theorem e_isn (ha : EF X W a fa) (hb : EF X W b fb) : EF X W (.Compare a [.Is] [b] pos) (eOp2 (isnM false) fa fb) := e_cmp op_isN br_isn ha hb (nomark b)
theorem e_notn (ha : EF X W a fa) (hb : EF X W b fb) : EF X W (.Compare a [.IsNot] [b] pos) (eOp2 (isnM true) fa fb) := e_cmp op_notN br_notn ha hb (nomark b)
end
end NT

/-! NT: == and != of trees, truth, tests, displays, subscripts, len. -/
namespace NT
open PySem PySem.Spec PyProof.Rows L2

/-! ### trees as data -/
mutual
def D.py : D → PyData
  | .non => .none
  | .bl b => .bool b
  | .int i => .int i
  | .str s => .str s
  | .tup ds => .tuple (D.pys ds)
  | .lst ds => .list (D.pys ds)
  | .kls ds => .list (D.pys ds)
  | .ref _ => .none
def D.pys : List D → List PyData
  | [] => []
  | d :: ds => d.py :: D.pys ds
end
/-- plain data, at most so deep -/
def D.ok : Nat → D → Bool
  | 0, .tup _ => false
  | 0, .lst _ => false
  | 0, .kls _ => false
  | n + 1, .tup ds => ds.all (D.ok n)
  | n + 1, .lst ds => ds.all (D.ok n)
  | n + 1, .kls ds => ds.all (D.ok n)
  | _, .ref _ => false
  | _, .str s => PyData.strOk s
  | _, _ => true
mutual
def D.eqb : D → D → Bool
  | .non, .non => true
  | .bl a, .bl b => a == b
  | .bl a, .int j => (if a then 1 else 0) == j
  | .int i, .bl b => i == (if b then 1 else 0)
  | .int i, .int j => i == j
  | .str a, .str b => a == b
  | .tup a, .tup b => D.eqbs a b
  | .lst a, .lst b => D.eqbs a b
  | .lst a, .kls b => D.eqbs a b
  | .kls a, .lst b => D.eqbs a b
  | .kls a, .kls b => D.eqbs a b
  | _, _ => false
def D.eqbs : List D → List D → Bool
  | [], [] => true
  | a :: as, b :: bs => D.eqb a b && D.eqbs as bs
  | _, _ => false
end
mutual
def D.noref : D → Bool
  | .ref _ => false
  | .tup ds => D.norefs ds
  | .lst ds => D.norefs ds
  | .kls ds => D.norefs ds
  | _ => true
def D.norefs : List D → Bool
  | [] => true
  | d :: ds => d.noref && D.norefs ds
end
theorem norefs_all : ∀ ds : List D, D.norefs ds = ds.all D.noref
  | [] => by simp only [D.norefs, List.all_nil]
  | d :: ds => by simp only [D.norefs, List.all_cons, norefs_all ds]
theorem D.ok_noref : ∀ (n : Nat) (d : D), d.ok n = true → d.noref = true
  | 0, d, h => by cases d <;> simp_all [D.ok, D.noref]
  | n + 1, d, h => by
    cases d with
    | tup ds => simp only [D.ok, D.noref, norefs_all, List.all_eq_true] at h ⊢; exact fun x hx => D.ok_noref n x (h x hx)
    | lst ds => simp only [D.ok, D.noref, norefs_all, List.all_eq_true] at h ⊢; exact fun x hx => D.ok_noref n x (h x hx)
    | kls ds => simp only [D.ok, D.noref, norefs_all, List.all_eq_true] at h ⊢; exact fun x hx => D.ok_noref n x (h x hx)
    | _ => simp_all [D.ok, D.noref]
mutual
theorem D.eqv_py : ∀ (a b : D), a.noref = true → b.noref = true → PyData.eqv a.py b.py = D.eqb a b
  | .tup as, b, h1, h2 => by
    cases b with
    | tup bs => simp only [D.py, PyData.eqv, D.eqb]; exact D.eqvs_py as bs (by simpa only [D.noref] using h1) (by simpa only [D.noref] using h2)
    | ref n => simp [D.noref] at h2
    | _ => simp only [D.py, PyData.eqv, D.eqb]
  | .lst as, b, h1, h2 => by
    cases b with
    | lst bs => simp only [D.py, PyData.eqv, D.eqb]; exact D.eqvs_py as bs (by simpa only [D.noref] using h1) (by simpa only [D.noref] using h2)
    | kls bs => simp only [D.py, PyData.eqv, D.eqb]; exact D.eqvs_py as bs (by simpa only [D.noref] using h1) (by simpa only [D.noref] using h2)
    | ref n => simp [D.noref] at h2
    | _ => simp only [D.py, PyData.eqv, D.eqb]
  | .kls as, b, h1, h2 => by
    cases b with
    | lst bs => simp only [D.py, PyData.eqv, D.eqb]; exact D.eqvs_py as bs (by simpa only [D.noref] using h1) (by simpa only [D.noref] using h2)
    | kls bs => simp only [D.py, PyData.eqv, D.eqb]; exact D.eqvs_py as bs (by simpa only [D.noref] using h1) (by simpa only [D.noref] using h2)
    | ref n => simp [D.noref] at h2
    | _ => simp only [D.py, PyData.eqv, D.eqb]
  | .ref n, b, h1, _ => by simp [D.noref] at h1
  | .non, b, _, h2 => by
    cases b with
    | ref n => simp [D.noref] at h2
    | _ => simp only [D.py, PyData.eqv, D.eqb]
  | .bl x, b, _, h2 => by
    cases b with
    | ref n => simp [D.noref] at h2
    | _ => simp only [D.py, PyData.eqv, D.eqb]
  | .int x, b, _, h2 => by
    cases b with
    | ref n => simp [D.noref] at h2
    | _ => simp only [D.py, PyData.eqv, D.eqb]
  | .str x, b, _, h2 => by
    cases b with
    | ref n => simp [D.noref] at h2
    | _ => simp only [D.py, PyData.eqv, D.eqb]
theorem D.eqvs_py : ∀ (as bs : List D), D.norefs as = true → D.norefs bs = true → PyData.eqvAll (D.pys as) (D.pys bs) = D.eqbs as bs
  | [], [], _, _ => by simp only [D.pys, PyData.eqvAll, D.eqbs]
  | [], _ :: _, _, _ => by simp only [D.pys, PyData.eqvAll, D.eqbs]
  | _ :: _, [], _, _ => by simp only [D.pys, PyData.eqvAll, D.eqbs]
  | a :: as, b :: bs, h1, h2 => by
    simp only [D.norefs, Bool.and_eq_true] at h1 h2
    simp only [D.pys, PyData.eqvAll, D.eqbs]
    rw [D.eqv_py a b h1.1 h2.1, D.eqvs_py as bs h1.2 h2.2]
end
mutual
theorem D.eqb_refl : ∀ d : D, d.noref = true → D.eqb d d = true
  | .non, _ => by simp only [D.eqb]
  | .bl _, _ => by simp [D.eqb]
  | .int _, _ => by simp [D.eqb]
  | .str _, _ => by simp [D.eqb]
  | .tup ds, h => by simp only [D.eqb]; exact D.eqbs_refl ds (by simpa only [D.noref] using h)
  | .lst ds, h => by simp only [D.eqb]; exact D.eqbs_refl ds (by simpa only [D.noref] using h)
  | .kls ds, h => by simp only [D.eqb]; exact D.eqbs_refl ds (by simpa only [D.noref] using h)
  | .ref _, h => by simp [D.noref] at h
theorem D.eqbs_refl : ∀ ds : List D, D.norefs ds = true → D.eqbs ds ds = true
  | [], _ => by simp only [D.eqbs]
  | d :: ds, h => by
    simp only [D.norefs, Bool.and_eq_true] at h
    simp only [D.eqbs, Bool.and_eq_true]
    exact ⟨D.eqb_refl d h.1, D.eqbs_refl ds h.2⟩
end
theorem pys_map : ∀ ds : List D, D.pys ds = ds.map D.py
  | [] => by simp only [D.pys, List.map_nil]
  | d :: ds => by simp only [D.pys, List.map_cons, pys_map ds]
theorem canLayAll_all : ∀ l : List PyData, PyData.canLayAll0 l = l.all PyData.canLay0
  | [] => by simp only [PyData.canLayAll0, List.all_nil]
  | d :: ds => by simp only [PyData.canLayAll0, List.all_cons, canLayAll_all ds]
theorem depthAll_le : ∀ (l : List PyData) (n : Nat), (∀ x ∈ l, x.depth ≤ n) → PyData.depthAll l ≤ n
  | [], _, _ => by simp only [PyData.depthAll]; omega
  | d :: ds, n, h => by
    simp only [PyData.depthAll]
    have h1 := h d List.mem_cons_self
    have h2 := depthAll_le ds n fun x hx => h x (List.mem_cons_of_mem _ hx)
    omega
theorem D.ok_lay : ∀ (n : Nat) (d : D), d.ok n = true → d.py.canLay0 = true ∧ d.py.depth ≤ n
  | 0, d, h => by cases d <;> simp_all [D.ok, D.py, PyData.canLay0, PyData.depth]
  | n + 1, d, h => by
    have go : ∀ ds : List D, ds.all (D.ok n) = true → PyData.canLayAll0 (D.pys ds) = true ∧ PyData.depthAll (D.pys ds) ≤ n := fun ds q => by
      rw [List.all_eq_true] at q
      rw [canLayAll_all, pys_map, List.all_eq_true]
      refine ⟨fun x hx => ?_, depthAll_le _ _ fun x hx => ?_⟩
      · obtain ⟨e, he, rfl⟩ := List.mem_map.mp hx
        exact (D.ok_lay n e (q e he)).1
      · obtain ⟨e, he, rfl⟩ := List.mem_map.mp hx
        exact (D.ok_lay n e (q e he)).2
    cases d with
    | tup ds =>
      obtain ⟨h1, h2⟩ := go ds (by simpa only [D.ok] using h)
      simp only [D.py, PyData.canLay0, PyData.depth]
      exact ⟨h1, by omega⟩
    | lst ds =>
      obtain ⟨h1, h2⟩ := go ds (by simpa only [D.ok] using h)
      simp only [D.py, PyData.canLay0, PyData.depth]
      exact ⟨h1, by omega⟩
    | kls ds =>
      obtain ⟨h1, h2⟩ := go ds (by simpa only [D.ok] using h)
      simp only [D.py, PyData.canLay0, PyData.depth]
      exact ⟨h1, by omega⟩
    | _ => simp_all [D.ok, D.py, PyData.canLay0, PyData.depth]
section
variable {K : PySem.W.Frag} {ρ : List Addr} {H : Hp}
mutual
theorem rep_dp : ∀ (d : D) (v : V), d.noref = true → Rep K ρ H d v → Dp K H v d.py
  | .non, v, _, h => by simp only [Rep] at h; subst h; simp only [D.py]; exact .non
  | .bl b, v, _, h => by simp only [Rep] at h; subst h; simp only [D.py]; exact .bl b
  | .int b, v, _, h => by simp only [Rep] at h; subst h; simp only [D.py]; exact .int b
  | .str b, v, _, h => by simp only [Rep] at h; subst h; simp only [D.py]; exact .str b
  | .tup ds, v, n, h => by
    simp only [Rep] at h
    obtain ⟨a, xs, rfl, h2, h3⟩ := h
    simp only [D.py]
    exact .tup h2.seq (reps_dp ds xs (by simpa only [D.noref] using n) h3)
  | .lst ds, v, n, h => by
    simp only [Rep] at h
    obtain ⟨a, xs, o, rfl, h2, h3⟩ := h
    simp only [D.py]
    exact .lst (.inl (.inr ⟨o, h2⟩)) (reps_dp ds xs (by simpa only [D.noref] using n) h3)
  | .kls ds, v, n, h => by
    simp only [Rep] at h
    obtain ⟨a, xs, rfl, h2, h3⟩ := h
    simp only [D.py]
    exact .lst h2.seq (reps_dp ds xs (by simpa only [D.noref] using n) h3)
  | .ref k, v, n, _ => by simp [D.noref] at n
theorem reps_dp : ∀ (ds : List D) (vs : List V), D.norefs ds = true → Reps K ρ H ds vs → DpAll K H vs (D.pys ds)
  | [], _, _, h => by simp only [Reps] at h; subst h; simp only [D.pys]; exact .nil
  | d :: ds, _, n, h => by
    simp only [Reps] at h
    obtain ⟨v, r, rfl, h2, h3⟩ := h
    simp only [D.norefs, Bool.and_eq_true] at n
    simp only [D.pys]
    exact .cons (rep_dp d v n.1 h2) (reps_dp ds r n.2 h3)
end
end
/-- what stands there, as a tree -/
def pd (δ : Sl) (μ : Mu) : P → Option D
  | .val (.ref n) => match μ[n]? with
    | some (.lst ds) => some (.lst ds)
    | _ => none
  | .val d => some d
  | .own _ ds => some (.lst ds)
  | p => (lget δ μ p).map D.lst
/-- a list of trees that the def reads: its data -/
theorem pd_ok {K : PySem.W.Frag} {ρ : List Addr} {μ : Mu} {δ : Sl} {σ : L2.St} {H : Hp} (h : Hold K ρ μ δ σ H) {p : P} {x : V} {d : D} (r : PR K ρ H p x) (e : pd δ μ p = some d) (n : d.noref = true) : Dp K H x d.py := by
  have viaL : ∀ ds, lget δ μ p = some ds → d = .lst ds → Dp K H x d.py := fun ds q z => by
    subst z
    obtain ⟨a, xs, rfl, h2, h3⟩ := lget_ok h r q
    simp only [D.py]
    exact .lst h2 (reps_dp ds xs (by simpa only [D.noref] using n) h3)
  cases p with
  | val t =>
    cases t with
    | ref k =>
      simp only [pd] at e
      split at e
      · rename_i ds q
        cases e
        exact viaL ds (by simp only [lget, q]) rfl
      · cases e
    | _ =>
      simp only [pd] at e
      cases e
      exact rep_dp (ρ := ρ) _ _ n r
  | own a ds =>
    simp only [pd] at e
    cases e
    exact viaL ds (by simp only [lget]) rfl
  | bor a pl =>
    simp only [pd] at e
    cases q : lget δ μ (.bor a pl) with
    | none => rw [q] at e; cases e
    | some ds =>
      rw [q] at e
      cases e
      exact viaL ds q rfl
/-! ### ==, != -/
def rEqN (K : PySem.W.Frag) : R2 := fun x y H Q => rEq x y H Q ∨ rEqD K x y H Q
def rNeN (K : PySem.W.Frag) : R2 := fun x y H Q => rNe x y H Q ∨ rNeD K x y H Q
def eqM (neg : Bool) : M2 := fun p q δ μ C => match p, q with
  | .val (.str a), .val (.str b) => C (.val (.bl (if neg then !(a == b) else a == b))) μ
  | p, q => match pd δ μ p, pd δ μ q with
    | some a, some b => (a.ok 64 = true ∧ b.ok 64 = true) ∧ C (.val (.bl (if neg then !(D.eqb a b) else D.eqb a b))) μ
    | _, _ => False
theorem eq_core {K : PySem.W.Frag} {ρ : List Addr} {μ : Mu} {δ : Sl} {σ : L2.St} {H : Hp} {p q : P} {x y : V} {neg : Bool} {C : P → Mu → Prop} {Q : VK} (ho : Hold K ρ μ δ σ H) (rp : PR K ρ H p x) (rq : PR K ρ H q y) (c : eqM neg p q δ μ C)
    (hC : ∀ p' μ', C p' μ' → ∀ ρ' H' v, Evo K (footM ρ μ) ρ H ρ' μ' H' (footP p') → PR K ρ' H' p' v → Q v H') :
    (∃ a b : Str, x = .str a ∧ y = .str b ∧ Q (.bl (if neg then !(a == b) else a == b)) H) ∨ ∃ d e, Dp K H x d ∧ Dp K H y e ∧ SeqAt.shaped d = true ∧ SeqAt.shaped e = true ∧ Q (.bl (if neg then !PyData.eqv d e else PyData.eqv d e)) H := by
  unfold eqM at c
  split at c
  · exact .inl ⟨_, _, pr_str rp, pr_str rq, hC _ _ c ρ H _ (ho.val fun _ => rfl) (by simp only [PR, Rep])⟩
  · split at c
    · rename_i a b h1 h2
      obtain ⟨⟨c1, c2⟩, c3⟩ := c
      have n1 := D.ok_noref _ _ c1
      have n2 := D.ok_noref _ _ c2
      have l1 := D.ok_lay _ _ c1
      have l2 := D.ok_lay _ _ c2
      refine .inr ⟨a.py, b.py, pd_ok ho rp h1 n1, pd_ok ho rq h2 n2, ?_, ?_, ?_⟩
      · unfold SeqAt.shaped
        rw [l1.1, decide_eq_true l1.2]
        rfl
      · unfold SeqAt.shaped
        rw [l2.1, decide_eq_true l2.2]
        rfl
      · rw [D.eqv_py a b n1 n2]
        exact hC _ _ c3 ρ H _ (ho.val fun _ => rfl) (by simp only [PR, Rep])
    · exact c.elim
theorem br_eq {K : PySem.W.Frag} : Br2 K (rEqN K) (eqM false) := by
  intro ρ μ δ σ H p q x y C Q ho rp rq ap c hC
  rcases eq_core ho rp rq c hC with ⟨a, b, rfl, rfl, h⟩ | ⟨d, e, h1, h2, h3, h4, h5⟩
  · refine .inl ⟨rfl, ?_⟩
    rw [show decide (V.str a = V.str b) = (a == b) from dec_str]
    exact h
  · exact .inr ⟨d, e, h1, h2, h3, h4, h5⟩
theorem br_ne {K : PySem.W.Frag} : Br2 K (rNeN K) (eqM true) := by
  intro ρ μ δ σ H p q x y C Q ho rp rq ap c hC
  rcases eq_core ho rp rq c hC with ⟨a, b, rfl, rfl, h⟩ | ⟨d, e, h1, h2, h3, h4, h5⟩
  · refine .inl ⟨rfl, ?_⟩
    rw [show decide (V.str a = V.str b) = (a == b) from dec_str]
    exact h
  · exact .inr ⟨d, e, h1, h2, h3, h4, h5⟩
section
variable {X : Cx} {W : WX} {pos : Pos} {a b : Expr} {fa fb : FE}
theorem e_eq (hu : X.A.units + 64 < cLine) (ha : EF X W a fa) (hb : EF X W b fb) : EF X W (.Compare a [.Eq] [b] pos) (eOp2 (eqM false) fa fb) := e_cmp (op_eq.or (op_eqD hu)) br_eq ha hb (nomark b)
theorem e_ne (hu : X.A.units + 64 < cLine) (ha : EF X W a fa) (hb : EF X W b fb) : EF X W (.Compare a [.NotEq] [b] pos) (eOp2 (eqM true) fa fb) := e_cmp (op_ne.or (op_neD hu)) br_ne ha hb (nomark b)
end
end NT

/-! NT: truth, tests, and, or, not, conditional expressions; rows of arguments; displays; subscripts; built-ins that are called. -/
namespace NT
open PySem PySem.Spec PyProof.Rows L2

section
variable {K : PySem.W.Frag} {W : WX} {ρ ρ1 ρ2 : List Addr} {μ μ1 μ2 : Mu} {δ δ1 : Sl} {σ σ1 : L2.St} {H H1 H2 : Hp} {F : Addr → Nat} {E : CX}
/-- behind an expression: the same state, with what it gave -/
theorem Evo.f0 {B : Addr → Nat} {p : P} (e : Evo K B ρ H ρ1 μ1 H1 (footP p)) : Evo K B ρ H ρ1 μ1 H1 F0 := e.drop
end
/-! ### tests -/
/-- a value's truth -/
def truM (p : P) (δ : Sl) (μ : Mu) (C : Bool → Prop) : Prop := match p with
  | .val .non => C false
  | .val (.bl b) => C b
  | .val (.int i) => C (i != 0)
  | .val (.str s) => s.length ≤ sizeLine ∧ C ((s.length : Int) != 0)
  | .val (.tup ds) => C (!ds.isEmpty)
  | p => match p, lget δ μ p with
    | _, some ds => C (!ds.isEmpty)
    | .val (.ref n), none => match μ[n]? with
      | some (.dic kvs) => C (!kvs.isEmpty)
      | _ => False
    | _, none => False
theorem reps_empty {K : PySem.W.Frag} {ρ : List Addr} {H : Hp} {ds : List D} {xs : List V} (h : Reps K ρ H ds xs) : (!ds.isEmpty) = !xs.isEmpty := by
  cases ds with
  | nil => simp only [Reps] at h; subst h; rfl
  | cons d ds => simp only [Reps] at h; obtain ⟨v, r, rfl, _⟩ := h; rfl
theorem kv_empty {κ : Type} {K : PySem.W.Frag} {ρ : List Addr} {H : Hp} {ds : List (κ × D)} {xs : List (κ × V)} (h : KvR K ρ H ds xs) : (!ds.isEmpty) = !xs.isEmpty := by
  cases ds with
  | nil => have h' : xs = [] := h; subst h'; rfl
  | cons d ds => obtain ⟨k, d⟩ := d; obtain ⟨v, r, rfl, _⟩ := h; rfl
theorem truM_ok {K : PySem.W.Frag} {ρ : List Addr} {μ : Mu} {δ : Sl} {σ : L2.St} {H : Hp} {p : P} {x : V} {C : Bool → Prop} (ho : Hold K ρ μ δ σ H) (r : PR K ρ H p x) (c : truM p δ μ C) : ∃ k, TruV K x H k ∧ C k := by
  unfold truM at c
  split at c
  · rw [pr_non r]; exact ⟨false, rfl, c⟩
  · rw [pr_bl r]; exact ⟨_, rfl, c⟩
  · rw [pr_int r]; exact ⟨_, rfl, c⟩
  · rw [pr_str r]; exact ⟨_, ⟨c.1, rfl⟩, c.2⟩
  · obtain ⟨a, xs, rfl, e2, e3⟩ := pr_tup r
    exact ⟨_, .inr (.inl ⟨xs, e2.seq, reps_empty e3⟩), c⟩
  · split at c
    · rename_i ds q
      obtain ⟨a, xs, rfl, e2, e3⟩ := lget_ok ho r q
      exact ⟨_, .inl ⟨xs, e2, reps_empty e3⟩, c⟩
    · split at c
      · rename_i kvs q
        simp only [PR, Rep] at r
        obtain ⟨a, rfl, e2⟩ := r
        obtain ⟨b, e3, ks, e4, e5⟩ := ho.sm.obj _ _ q
        rw [e2] at e3
        cases e3
        exact ⟨_, .inr (.inr ⟨ks, e4, kv_empty e5⟩), c⟩
      · exact c.elim
    · exact c.elim
def tTru (f : FE) : FT := fun δ μ C E => f δ μ (fun p μ1 => truM p δ μ1 fun k => C k μ1) E
def tBool (f : FE) : FT := fun δ μ C E => f δ μ (fun p μ1 => match p with | .val (.bl b) => C b μ1 | _ => False) E
def tAnd2 (a b : FT) : FT := fun δ μ C E => a δ μ (fun k μ1 => if k = true then b δ μ1 C E else C false μ1) E
def tOr2 (a b : FT) : FT := fun δ μ C E => a δ μ (fun k μ1 => if k = true then C true μ1 else b δ μ1 C E) E
def tNot1 (a : FT) : FT := fun δ μ C E => a δ μ (fun k μ1 => C (!k) μ1) E
def eAnd2 (a b : FE) : FE := fun δ μ C E => a δ μ (fun p μ1 => match p with | .val (.bl k) => (if k = true then b δ μ1 C E else C (.val (.bl false)) μ1) | _ => False) E
def eOr2 (a b : FE) : FE := fun δ μ C E => a δ μ (fun p μ1 => match p with | .val (.bl k) => (if k = true then C (.val (.bl true)) μ1 else b δ μ1 C E) | _ => False) E
def eNot1 (a : FE) : FE := fun δ μ C E => a δ μ (fun p μ1 => match p with | .val (.bl k) => C (.val (.bl (!k))) μ1 | _ => False) E
def eIf (t : FT) (a b : FE) : FE := fun δ μ C E => t δ μ (fun k μ1 => if k = true then a δ μ1 C E else b δ μ1 C E) E
section
variable {X : Cx} {W : WX} {pos : Pos} {a b c : Expr} {rest : List Expr} {fa fb : FE} {ta tb : FT}
theorem t_tru (ha : EF X W a fa) (he : ∀ whole, isTrue a X.env whole = (do let v ← whole; standAt a.pos; holding [v] (truthy v)) := by intro _; rfl) : TF X W a (tTru fa) := pt_imp (pt_truth ha he) fun σ H Q ⟨ρ, μ, δ, C, E, ho, c, hC, hX⟩ =>
  ⟨ρ, μ, δ, _, E, ho, c, fun p μ1 c1 ρ1 H1 v1 e1 r1 => by
    obtain ⟨k, h1, h2⟩ := truM_ok (ho.after e1) r1 c1
    exact ⟨k, h1, hC k μ1 h2 ρ1 H1 e1.f0⟩, hX⟩
theorem lift_bool {K : PySem.W.Frag} {σ : L2.St} {H : Hp} {Q : Bool → Hp → Prop} (h : liftT K W (tBool fa) σ H Q) : liftE K W fa σ H fun x H1 => ∃ k, x = .bl k ∧ Q k H1 := by
  obtain ⟨ρ, μ, δ, C, E, ho, c, hC, hX⟩ := h
  refine ⟨ρ, μ, δ, _, E, ho, c, fun p μ1 c1 ρ1 H1 v1 e1 r1 => ?_, hX⟩
  split at c1
  · exact ⟨_, pr_bl r1, hC _ μ1 c1 ρ1 H1 e1.f0⟩
  · exact c1.elim
/-- a comparison as a test -/
theorem t_cmp {op : CmpOp} {r : R2} {m : M2} (ho : OpR X (compareOp op) r) (br : Br2 X.K r m) (ha : EF X W a fa) (hb : EF X W b fb) (hm : behindInMarks op b = false) : TF X W (.Compare a [op] [b] pos) (tBool (eOp2 m fa fb)) :=
  pt_imp (pt_cmpR ho ha hb hm) fun σ H Q h => op2_lift (fa := fa) (fb := fb) br (lift_bool h)
theorem t_eq (hu : X.A.units + 64 < cLine) (ha : EF X W a fa) (hb : EF X W b fb) : TF X W (.Compare a [.Eq] [b] pos) (tBool (eOp2 (eqM false) fa fb)) := t_cmp (op_eq.or (op_eqD hu)) br_eq ha hb (nomark b)
theorem t_ne (hu : X.A.units + 64 < cLine) (ha : EF X W a fa) (hb : EF X W b fb) : TF X W (.Compare a [.NotEq] [b] pos) (tBool (eOp2 (eqM true) fa fb)) := t_cmp (op_ne.or (op_neD hu)) br_ne ha hb (nomark b)
theorem t_lt (ha : EF X W a fa) (hb : EF X W b fb) : TF X W (.Compare a [.Lt] [b] pos) (tBool (eOp2 (cmpM fun i j => decide (i < j)) fa fb)) := t_cmp op_lt br_cmp ha hb (nomark b)
theorem t_le (ha : EF X W a fa) (hb : EF X W b fb) : TF X W (.Compare a [.LtE] [b] pos) (tBool (eOp2 (cmpM fun i j => decide (i ≤ j)) fa fb)) := t_cmp op_le br_cmp ha hb (nomark b)
theorem t_gt (ha : EF X W a fa) (hb : EF X W b fb) : TF X W (.Compare a [.Gt] [b] pos) (tBool (eOp2 (cmpM fun i j => decide (j < i)) fa fb)) := t_cmp op_gt br_cmp ha hb (nomark b)
theorem t_ge (ha : EF X W a fa) (hb : EF X W b fb) : TF X W (.Compare a [.GtE] [b] pos) (tBool (eOp2 (cmpM fun i j => decide (j ≤ i)) fa fb)) := t_cmp op_ge br_cmp ha hb (nomark b)
theorem t_isn (ha : EF X W a fa) (hb : EF X W b fb) : TF X W (.Compare a [.Is] [b] pos) (tBool (eOp2 (isnM false) fa fb)) := t_cmp op_isN br_isn ha hb (nomark b)
theorem t_notn (ha : EF X W a fa) (hb : EF X W b fb) : TF X W (.Compare a [.IsNot] [b] pos) (tBool (eOp2 (isnM true) fa fb)) := t_cmp op_notN br_notn ha hb (nomark b)
theorem t_not (ha : TF X W a ta) : TF X W (.UnaryOp .Not a pos) (tNot1 ta) := pt_imp (pt_not ha) fun σ H Q ⟨ρ, μ, δ, C, E, ho, c, hC, hX⟩ => ⟨ρ, μ, δ, _, E, ho, c, fun k μ1 c1 ρ1 H1 e1 => hC _ μ1 c1 ρ1 H1 e1, hX⟩
theorem w_and1 (ha : TF X W a ta) : WF X W (.BoolOp .And [a] pos) ta := pw_and1 ha
theorem w_or1 (ha : TF X W a ta) : WF X W (.BoolOp .Or [a] pos) ta := pw_or1 ha
theorem w_and (ha : TF X W a ta) (hb : WF X W (.BoolOp .And (b :: rest) pos) tb) : WF X W (.BoolOp .And (a :: b :: rest) pos) (tAnd2 ta tb) := pw_imp (pw_and ha hb) fun σ H Q ⟨ρ, μ, δ, C, E, ho, c, hC, hX⟩ =>
  ⟨ρ, μ, δ, _, E, ho, c, fun k μ1 c1 ρ1 H1 e1 => by
    cases k with
    | true => exact ⟨ρ1, μ1, δ, C, E, ho.after e1, c1, fun k μ2 c2 ρ2 H2 e2 => hC k μ2 c2 ρ2 H2 (e1.transM e2), hX.after e1⟩
    | false => exact hC _ μ1 c1 ρ1 H1 e1, hX⟩
theorem w_or (ha : TF X W a ta) (hb : WF X W (.BoolOp .Or (b :: rest) pos) tb) : WF X W (.BoolOp .Or (a :: b :: rest) pos) (tOr2 ta tb) := pw_imp (pw_or ha hb) fun σ H Q ⟨ρ, μ, δ, C, E, ho, c, hC, hX⟩ =>
  ⟨ρ, μ, δ, _, E, ho, c, fun k μ1 c1 ρ1 H1 e1 => by
    cases k with
    | false => exact ⟨ρ1, μ1, δ, C, E, ho.after e1, c1, fun k μ2 c2 ρ2 H2 e2 => hC k μ2 c2 ρ2 H2 (e1.transM e2), hX.after e1⟩
    | true => exact hC _ μ1 c1 ρ1 H1 e1, hX⟩
theorem t_w {e : Expr} (h : WF X W e ta) : TF X W e ta := PW.pt h
/-- as values -/
theorem e_one {op : BoolOp} (ha : EF X W a fa) : EF X W (.BoolOp op [a] pos) fa := pe_one ha
theorem e_and (ha : EF X W a fa) (hb : EF X W (.BoolOp .And (b :: rest) pos) fb) : EF X W (.BoolOp .And (a :: b :: rest) pos) (eAnd2 fa fb) := pe_imp (pe_and ha hb) fun σ H Q ⟨ρ, μ, δ, C, E, ho, c, hC, hX⟩ =>
  ⟨ρ, μ, δ, _, E, ho, c, fun p μ1 c1 ρ1 H1 v1 e1 r1 => by
    split at c1
    · rename_i k
      refine ⟨k, pr_bl r1, ?_⟩
      cases k with
      | true => exact ⟨ρ1, μ1, δ, C, E, ho.after e1, c1, fun q μ2 c2 ρ2 H2 v2 e2 r2 => hC q μ2 c2 ρ2 H2 v2 (e1.transM e2) r2, hX.after e1⟩
      | false => exact hC _ μ1 c1 ρ1 H1 _ e1 (by simp only [PR, Rep])
    · exact c1.elim, hX⟩
theorem e_or (ha : EF X W a fa) (hb : EF X W (.BoolOp .Or (b :: rest) pos) fb) : EF X W (.BoolOp .Or (a :: b :: rest) pos) (eOr2 fa fb) := pe_imp (pe_or ha hb) fun σ H Q ⟨ρ, μ, δ, C, E, ho, c, hC, hX⟩ =>
  ⟨ρ, μ, δ, _, E, ho, c, fun p μ1 c1 ρ1 H1 v1 e1 r1 => by
    split at c1
    · rename_i k
      refine ⟨k, pr_bl r1, ?_⟩
      cases k with
      | false => exact ⟨ρ1, μ1, δ, C, E, ho.after e1, c1, fun q μ2 c2 ρ2 H2 v2 e2 r2 => hC q μ2 c2 ρ2 H2 v2 (e1.transM e2) r2, hX.after e1⟩
      | true => exact hC _ μ1 c1 ρ1 H1 _ e1 (by simp only [PR, Rep])
    · exact c1.elim, hX⟩
theorem e_not (ha : EF X W a fa) : EF X W (.UnaryOp .Not a pos) (eNot1 fa) := pe_imp (pe_not ha) fun σ H Q ⟨ρ, μ, δ, C, E, ho, c, hC, hX⟩ =>
  ⟨ρ, μ, δ, _, E, ho, c, fun p μ1 c1 ρ1 H1 v1 e1 r1 => by
    split at c1
    · exact ⟨_, pr_bl r1, hC _ μ1 c1 ρ1 H1 _ e1 (by simp only [PR, Rep])⟩
    · exact c1.elim, hX⟩
theorem e_if (hc : TF X W c ta) (ha : EF X W a fa) (hb : EF X W b fb) : EF X W (.IfExp c a b pos) (eIf ta fa fb) := pe_imp (pe_ifExp hc ha hb) fun σ H Q ⟨ρ, μ, δ, C, E, ho, c, hC, hX⟩ =>
  ⟨ρ, μ, δ, _, E, ho, c, fun k μ1 c1 ρ1 H1 e1 => by
    cases k with
    | true => exact ⟨ρ1, μ1, δ, C, E, ho.after e1, c1, fun q μ2 c2 ρ2 H2 v2 e2 r2 => hC q μ2 c2 ρ2 H2 v2 (e1.transM e2) r2, hX.after e1⟩
    | false => exact ⟨ρ1, μ1, δ, C, E, ho.after e1, c1, fun q μ2 c2 ρ2 H2 v2 e2 r2 => hC q μ2 c2 ρ2 H2 v2 (e1.transM e2) r2, hX.after e1⟩, hX⟩
end
/-! ### a list that stands alone is locked for good -/
def tFrz (t : TE) : TE := fun σ H Q => t σ H fun v H1 => Q v H1 ∨ ∃ a xs, v = .ref a ∧ H1 a = some (.lst xs) ∧ ∀ o, Q v (upd H1 a (.frz o (.lst xs)))
theorem pe_frz {X : Cx} {e : Expr} {t : TE} (h : PE X e t) : PE X e (tFrz t) := by
  refine ⟨fun pins s σ H Q I q => ?_⟩
  refine thn (h.run pins s σ H _ I q) fun u s1 hh => ?_
  obtain ⟨v, H1, I1, r, q1 | ⟨a, xs, rfl, ha, q1⟩⟩ := hh
  · exact ⟨v, H1, I1, r, q1⟩
  · obtain ⟨o, I2⟩ := I1.lock ha trivial
    exact ⟨.ref a, _, I2, r, q1 o⟩
/-- a tree, whatever the place -/
def asD (p : P) (C : D → Prop) : Prop := match p with
  | .val d => C d
  | .own _ ds => C (.lst ds)
  | .bor _ _ => False
def eFrz (f : FE) : FE := fun δ μ C E => f δ μ (fun p μ1 => asD p fun d => C (.val d) μ1) E
section
variable {K : PySem.W.Frag} {W : WX} {ρ ρ1 ρ2 : List Addr} {μ μ1 μ2 : Mu} {δ δ1 : Sl} {σ σ1 : L2.St} {H H1 H2 : Hp} {F : Addr → Nat} {E : CX}
theorem frz_evo {B : Addr → Nat} {a : Addr} {ds : List D} {xs : List V} {o : Obj} (e : Evo K B ρ H ρ1 μ1 H1 (footP (.own a ds))) (h : H1 a = some (.lst xs)) (r : Reps K ρ1 H1 ds xs) :
    Evo K B ρ H ρ1 μ1 (upd H1 a (.frz o (.lst xs))) F0 ∧ Rep K ρ1 (upd H1 a (.frz o (.lst xs))) (.lst ds) (.ref a) := by
  have fa : footP (.own a ds) a = 1 := by simp [footP]
  have st : Stay H1 (upd H1 a (.frz o (.lst xs))) := fun b u q f => by
    rw [upd_ne]
    · exact q
    · intro z
      rw [z, h] at q
      cases q
      exact f
  have z : ∀ b, 1 ≤ footM ρ1 μ1 b → b ≠ a := fun b q w => by
    have := e.one b
    rw [w, fa] at this
    rw [w] at q
    omega
  refine ⟨⟨e.sm.stay st fun b u q w => by rw [upd_ne (z b q)]; exact w, e.ext, fun b u q w => ?_, fun x q => e.grow x (by have z : F0 x = 0 := rfl; omega), fun x => by have := e.one x; have z : F0 x = 0 := rfl; omega⟩, ?_⟩
  · have k := e.keep b u q w
    rw [upd_ne]
    · exact k
    · intro t
      rcases e.grow b (by rw [t, fa]; omega) with g | g
      · omega
      · rw [q] at g
        cases g
  · simp only [Rep]
    exact ⟨a, xs, o, rfl, upd_same, r.stay st (Ext.refl _)⟩
end
theorem e_frz {X : Cx} {W : WX} {e : Expr} {f : FE} (h : EF X W e f) : EF X W e (eFrz f) := pe_imp (pe_frz h) fun σ H Q ⟨ρ, μ, δ, C, E, ho, c, hC, hX⟩ =>
  ⟨ρ, μ, δ, _, E, ho, c, fun p μ1 c1 ρ1 H1 v1 e1 r1 => by
    cases p with
    | val d => exact .inl (hC _ μ1 c1 ρ1 H1 v1 e1 r1)
    | own a ds =>
      obtain ⟨rfl, xs, h1, h2⟩ := r1
      refine .inr ⟨a, xs, rfl, h1, fun o => ?_⟩
      obtain ⟨ev, rp⟩ := frz_evo (o := o) e1 h1 h2
      exact hC (.val (.lst ds)) μ1 c1 ρ1 _ _ ev rp
    | bor a pl => exact c1.elim, hX⟩
/-! ### rows of arguments -/
def aNil : FA := fun _ μ C _ => C [] μ
def aCons (f : FE) (r : FA) : FA := fun δ μ C E => f δ μ (fun p μ1 => asD p fun d => r δ μ1 (fun ds μ2 => C (d :: ds) μ2) E) E
theorem a_nil {X : Cx} {W : WX} : AF X W [] aNil := pa_imp pa_nil fun σ H Q ⟨ρ, μ, δ, C, E, ho, c, hC, hX⟩ => hC _ μ c ρ H [] ho.refl reps_nil
theorem a_cons {X : Cx} {W : WX} {e : Expr} {es : List Expr} {f : FE} {r : FA} (ha : EF X W e f) (hr : AF X W es r) (hs : starEach (e :: es) X.env = (false, eval e X.env) :: starEach es X.env := by rfl) : AF X W (e :: es) (aCons f r) :=
  pa_imp (pa_cons (e_frz ha) hr hs) fun σ H Q ⟨ρ, μ, δ, C, E, ho, c, hC, hX⟩ =>
  ⟨ρ, μ, δ, fun p μ1 => ∃ d, p = .val d ∧ r δ μ1 (fun ds μ2 => C (d :: ds) μ2) E, E, ho, by
    unfold eFrz
    unfold aCons at c
    have m : (fun (p : P) (μ1 : Mu) => asD p fun d => ∃ d', P.val d = .val d' ∧ r δ μ1 (fun ds μ2 => C (d' :: ds) μ2) E) = fun p μ1 => asD p fun d => r δ μ1 (fun ds μ2 => C (d :: ds) μ2) E := by
      funext p μ1
      cases p with
      | val d => exact propext ⟨fun ⟨d', e, h⟩ => by cases e; exact h, fun h => ⟨d, rfl, h⟩⟩
      | own a ds => exact propext ⟨fun ⟨d', e, h⟩ => by cases e; exact h, fun h => ⟨_, rfl, h⟩⟩
      | bor a pl => rfl
    rw [m]
    exact c, fun p μ1 ⟨d, hp, c1⟩ ρ1 H1 v1 e1 r1 => by
    subst hp
    refine ⟨ρ1, μ1, δ, _, E, ho.after e1, c1, fun ds μ2 c2 ρ2 H2 vs e2 r2 => ?_, hX.after e1⟩
    exact hC _ μ2 c2 ρ2 H2 _ (e1.transM e2) (reps_cons (Rep.stay (e2.stayM e1.sm) e2.ext d v1 r1) r2), hX⟩
/-! ### displays -/
def eTup (r : FA) : FE := fun δ μ C E => r δ μ (fun ds μ1 => ds.length ≤ sizeLine ∧ C (.val (.tup ds)) μ1) E
def eLst (r : FA) : FE := fun δ μ C E => r δ μ (fun ds μ1 => ds.length ≤ sizeLine ∧ ∀ a, C (.own a ds) μ1) E
/-- a list that is an object of the store -/
def eNew (r : FA) : FE := fun δ μ C E => r δ μ (fun ds μ1 => ds.length ≤ sizeLine ∧ C (.val (.ref μ1.length)) (μ1 ++ [.lst ds])) E
section
variable {X : Cx} {W : WX} {pos : Pos} {es : List Expr} {r : FA} {k : Nat}
theorem e_tup (h : AF X W es r) : EF X W (.Tuple es k pos) (eTup r) := pe_imp (pe_tup h) fun σ H Q ⟨ρ, μ, δ, C, E, ho, c, hC, hX⟩ =>
  ⟨ρ, μ, δ, _, E, ho, c, fun ds μ1 c1 ρ1 H1 vs e1 r1 => by
    refine ⟨by rw [← reps_len r1]; exact c1.1, fun p np => ?_⟩
    obtain ⟨ev, rp⟩ := (ho.after e1).newTup np r1
    exact hC _ μ1 c1.2 ρ1 _ _ (e1.transM ev) rp, hX⟩
theorem e_lst (h : AF X W es r) : EF X W (.List es pos) (eLst r) := pe_imp (pe_lst h) fun σ H Q ⟨ρ, μ, δ, C, E, ho, c, hC, hX⟩ =>
  ⟨ρ, μ, δ, _, E, ho, c, fun ds μ1 c1 ρ1 H1 vs e1 r1 => by
    refine ⟨by rw [← reps_len r1]; exact c1.1, fun p np => ?_⟩
    obtain ⟨ev, rp⟩ := (ho.after e1).newList np r1
    exact hC _ μ1 (c1.2 p) ρ1 _ _ (e1.transM ev) rp, hX⟩
theorem e_new (h : AF X W es r) : EF X W (.List es pos) (eNew r) := pe_imp (pe_lst h) fun σ H Q ⟨ρ, μ, δ, C, E, ho, c, hC, hX⟩ =>
  ⟨ρ, μ, δ, _, E, ho, c, fun ds μ1 c1 ρ1 H1 vs e1 r1 => by
    refine ⟨by rw [← reps_len r1]; exact c1.1, fun p np => ?_⟩
    have h1 := ho.after e1
    have ev : Evo X.K (footM ρ1 μ1) ρ1 H1 (ρ1 ++ [p]) (μ1 ++ [.lst ds]) (upd H1 p (.lst vs)) F0 := Evo.push h1.sm h1.le np (fun _ => rfl) ⟨vs, upd_same, r1.stay (fun b u q _ => stay_new np b u q) (Ext.app _ _)⟩
    refine hC _ _ c1.2 _ _ _ (e1.transM ev) ?_
    simp only [PR, Rep]
    exact ⟨p, rfl, by rw [← h1.sm.len]; simp⟩, hX⟩
end
end NT

/-! NT: subscripts, slices, built-in functions of one or two values. -/
namespace NT
open PySem PySem.Spec PyProof.Rows L2

section
variable {K : PySem.W.Frag} {ρ : List Addr} {H : Hp}
theorem reps_atI {ds : List D} {vs : List V} {i : Int} {d : D} (h : Reps K ρ H ds vs) (e : atI ds i = some d) : ∃ v, atI vs i = some v ∧ Rep K ρ H d v := by
  unfold atI at e ⊢
  rw [← reps_len h]
  cases q : ixN ds.length i with
  | none => rw [q] at e; cases e
  | some j =>
    rw [q] at e
    exact reps_get h e
theorem reps_take : ∀ {ds : List D} {vs : List V} (n : Nat), Reps K ρ H ds vs → Reps K ρ H (ds.take n) (vs.take n)
  | _, _, 0, _ => by simpa using reps_nil
  | [], _, n + 1, h => by simp only [Reps] at h; subst h; simpa using reps_nil
  | d :: ds, _, n + 1, h => by
    simp only [Reps] at h
    obtain ⟨v, r, rfl, h2, h3⟩ := h
    simpa only [List.take_succ_cons] using reps_cons h2 (reps_take n h3)
theorem reps_drop : ∀ {ds : List D} {vs : List V} (n : Nat), Reps K ρ H ds vs → Reps K ρ H (ds.drop n) (vs.drop n)
  | _, _, 0, h => by simpa using h
  | [], _, n + 1, h => by simp only [Reps] at h; subst h; simpa using reps_nil
  | d :: ds, _, n + 1, h => by
    simp only [Reps] at h
    obtain ⟨v, r, rfl, h2, h3⟩ := h
    simpa only [List.drop_succ_cons] using reps_drop n h3
theorem reps_set : ∀ {ds : List D} {vs : List V} (n : Nat) {d : D} {v : V}, Reps K ρ H ds vs → Rep K ρ H d v → Reps K ρ H (ds.set n d) (vs.set n v)
  | [], _, _, _, _, h, _ => by simp only [Reps] at h; subst h; simpa using reps_nil
  | d :: ds, _, 0, _, _, h, q => by
    simp only [Reps] at h
    obtain ⟨v, r, rfl, h2, h3⟩ := h
    simpa only [List.set_cons_zero] using reps_cons q h3
  | d :: ds, _, n + 1, _, _, h, q => by
    simp only [Reps] at h
    obtain ⟨v, r, rfl, h2, h3⟩ := h
    simpa only [List.set_cons_succ] using reps_cons h2 (reps_set n h3 q)
end
/-! ### a[i] -/
def ixM : M2 := fun p q δ μ C => match p, q with
  | .val (.tup ds), .val (.int i) => (match atI ds i with | some d => C (.val d) μ | none => False)
  | .val (.str z), .val (.int i) => z.length ≤ sizeLine ∧ (match atI z.cps.toList i with | some c => C (.val (.str ⟨#[c]⟩)) μ | none => False)
  | p, .val (.int i) => (match lget δ μ p with
    | some ds => (match atI ds i with | some d => C (.val d) μ | none => False)
    | none => False)
  | _, _ => False
theorem br_ix {K : PySem.W.Frag} : Br2 K (rIx K) ixM := by
  intro ρ μ δ σ H p q x y C Q ho rp rq ap c hC
  unfold ixM at c
  split at c
  · split at c
    · rename_i d e
      obtain ⟨a, xs, e1, e2, e3⟩ := pr_tup rp
      obtain ⟨v, h1, h2⟩ := reps_atI e3 e
      exact .inr (.inl ⟨a, xs, _, v, e1, pr_int rq, e2.seq, h1, hC _ _ c ρ H v (ho.val fun _ => rfl) h2⟩)
    · exact c.elim
  · obtain ⟨c1, c⟩ := c
    split at c
    · rename_i k e
      exact .inr (.inr ⟨_, _, k, pr_str rp, pr_int rq, c1, e, hC _ _ c ρ H _ (ho.val fun _ => rfl) (by simp only [PR, Rep])⟩)
    · exact c.elim
  · split at c
    · rename_i ds h
      split at c
      · rename_i d e
        obtain ⟨a, xs, e1, e2, e3⟩ := lget_ok ho rp h
        obtain ⟨v, h1, h2⟩ := reps_atI e3 e
        exact .inl ⟨a, xs, _, v, e1, pr_int rq, e2, h1, hC _ _ c ρ H v (ho.val fun _ => rfl) h2⟩
      · exact c.elim
    · exact c.elim
  · exact c.elim
theorem e_ix {X : Cx} {W : WX} {pos : Pos} {a b : Expr} {fa fb : FE} (ha : EF X W a fa) (hb : EF X W b fb) (hs : PlainIx b := by intro _ _; rfl) : EF X W (.Subscript a b pos) (eOp2 ixM fa fb) := pe_imp (pe_ix ix_seq ha hb hs) fun _ _ _ h => op2_lift br_ix h
/-! ### a[i:j] -/
abbrev FO := Sl → Mu → (Option Int → Mu → Prop) → CX → Prop
def liftO (K : PySem.W.Frag) (W : WX) (f : FO) : TO := fun σ H Q => ∃ ρ μ δ C E, Hold K ρ μ δ σ H ∧ f δ μ C E ∧ (∀ b μ', C b μ' → ∀ ρ' H', Evo K (footM ρ μ) ρ H ρ' μ' H' F0 → Q b H') ∧ XOut K W ρ μ σ H E
def OF (X : Cx) (W : WX) (e : Option Expr) (f : FO) : Prop := PO X e (liftO X.K W f)
def oNone : FO := fun _ μ C _ => C none μ
def oSome (f : FE) : FO := fun δ μ C E => f δ μ (fun p μ1 => match p with | .val (.int i) => C (some i) μ1 | _ => False) E
theorem po_imp {X : Cx} {e : Option Expr} {t t' : TO} (h : PO X e t) (i : ∀ σ H Q, t' σ H Q → t σ H Q) : PO X e t' := ⟨fun pins s σ H Q I q => h.run pins s σ H Q I (i σ H Q q)⟩
theorem o_none {X : Cx} {W : WX} : OF X W none oNone := po_imp po_none fun σ H Q ⟨ρ, μ, δ, C, E, ho, c, hC, hX⟩ => hC _ μ c ρ H ho.refl
theorem o_some {X : Cx} {W : WX} {e : Expr} {f : FE} (h : EF X W e f) : OF X W (some e) (oSome f) := po_imp (po_some h) fun σ H Q ⟨ρ, μ, δ, C, E, ho, c, hC, hX⟩ =>
  ⟨ρ, μ, δ, _, E, ho, c, fun p μ1 c1 ρ1 H1 v1 e1 r1 => by
    split at c1
    · exact ⟨_, pr_int r1, hC _ μ1 c1 ρ1 H1 e1.f0⟩
    · exact c1.elim, hX⟩
def cutL {α : Type} (xs : List α) (lo hi : Option Int) : List α := (xs.drop (HT.sIx xs.length 0 lo)).take (HT.sIx xs.length xs.length hi - HT.sIx xs.length 0 lo)
def slM (p : P) (lo hi : Option Int) (δ : Sl) (μ : Mu) (C : P → Mu → Prop) : Prop := match p with
  | .val (.tup ds) => C (.val (.tup (cutL ds lo hi))) μ
  | .val (.str z) => z.length ≤ sizeLine ∧ C (.val (.str (cutS z lo hi))) μ
  | p => match lget δ μ p with
    | some ds => ∀ a, C (.own a (cutL ds lo hi)) μ
    | none => False
def eSl (f : FE) (lo hi : FO) : FE := fun δ μ C E => f δ μ (fun p μ1 => lo δ μ1 (fun l μ2 => hi δ μ2 (fun h μ3 => slM p l h δ μ3 C) E) E) E
def rSlN (K : PySem.W.Frag) : V → Option Int → Option Int → Hp → VK → Prop := fun x lo hi H Q => rSlL K x lo hi H Q ∨ rSlA K x lo hi H Q ∨ rSlS x lo hi H Q
theorem reps_cut {K : PySem.W.Frag} {ρ : List Addr} {H : Hp} {ds : List D} {vs : List V} (h : Reps K ρ H ds vs) (lo hi : Option Int) : Reps K ρ H (cutL ds lo hi) (cutV vs lo hi) := by
  unfold cutL cutV
  rw [reps_len h]
  exact reps_take _ (reps_drop _ h)
theorem cut_whole {α : Type} {xs : List α} {lo hi : Option Int} (h : HT.sIx xs.length 0 lo = 0 ∧ HT.sIx xs.length xs.length hi = xs.length) : cutL xs lo hi = xs := by
  unfold cutL
  rw [h.1, h.2]
  simp
theorem sl_core {K : PySem.W.Frag} {ρ : List Addr} {μ : Mu} {δ : Sl} {σ : L2.St} {H : Hp} {p : P} {x : V} {lo hi : Option Int} {C : P → Mu → Prop} {Q : VK} (ho : Hold K ρ μ δ σ H) (rp : PR K ρ H p x) (c : slM p lo hi δ μ C)
    (hC : ∀ p' μ', C p' μ' → ∀ ρ' H' v, Evo K (footM ρ μ) ρ H ρ' μ' H' (footP p') → PR K ρ' H' p' v → Q v H') : rSlN K x lo hi H Q := by
  unfold slM at c
  split at c
  · rename_i ds
    obtain ⟨a, xs, e1, e2, e3⟩ := pr_tup rp
    have l := reps_len e3
    refine .inr (.inl ⟨a, xs, e1, e2.seq, fun hw => ?_, fun hw q nq => ?_⟩)
    · rw [cut_whole (by rw [l]; exact hw)] at c
      exact hC _ _ c ρ H _ (ho.val fun _ => rfl) (by rw [← e1]; exact rp)
    · obtain ⟨ev, rp'⟩ := ho.newTup nq (reps_cut e3 lo hi)
      exact hC _ _ c _ _ _ ev rp'
  · exact .inr (.inr ⟨_, pr_str rp, c.1, hC _ _ c.2 ρ H _ (ho.val fun _ => rfl) (by simp only [PR, Rep])⟩)
  · split at c
    · rename_i ds h
      obtain ⟨a, xs, e1, e2, e3⟩ := lget_ok ho rp h
      refine .inl ⟨a, xs, e1, e2, fun q nq => ?_⟩
      obtain ⟨ev, rp'⟩ := ho.newList nq (reps_cut e3 lo hi)
      exact hC _ _ (c q) _ _ _ ev rp'
    · exact c.elim
theorem e_sl {X : Cx} {W : WX} {pos p2 : Pos} {e : Expr} {lo hi : Option Expr} {f : FE} {fl fh : FO} (he : EF X W e f) (hl : OF X W lo fl) (hh : OF X W hi fh) : EF X W (.Subscript e (.Slice lo hi none p2) pos) (eSl f fl fh) :=
  pe_imp (pe_slice (sl_list.or (sl_tupA.or sl_str)) he hl hh) fun σ H Q ⟨ρ, μ, δ, C, E, ho, c, hC, hX⟩ =>
  ⟨ρ, μ, δ, _, E, ho, c, fun p μ1 c1 ρ1 H1 v1 e1 r1 =>
    ⟨ρ1, μ1, δ, _, E, ho.after e1, c1, fun l μ2 c2 ρ2 H2 e2 =>
      ⟨ρ2, μ2, δ, _, E, (ho.after e1).after e2, c2, fun h μ3 c3 ρ3 H3 e3 => by
        have e23 := e2.transM e3
        obtain ⟨rp, _⟩ := e1.wait r1 e23
        exact sl_core (((ho.after e1).after e2).after e3) rp c3 fun p' μ' c4 ρ4 H4 v4 e4 r4 => hC p' μ' c4 ρ4 H4 v4 ((e1.transM e23).transM e4) r4, (hX.after e1).after e2⟩, hX.after e1⟩, hX⟩
/-! ### built-in functions of one value, of two -/
section
variable {X : Cx} {W : WX} {p pos : Pos} {x : Str} {id T : String} {a b : Expr} {fa fb : FE} {r : List V → Hp → VK → Prop} {m : M1} {m2 : M2}
theorem e_callB (hc : CallR X (.builtin id) r) (br : Br1 X.K (fun x H Q => r [x] H Q) m) (hm : X.mg x = none) (hv : bootBuiltins x = some (.builtin id)) (ha : EF X W a fa) (hg : Gl X x := by rfl) (hn : x ≠ "__name__" := by decide) (hdb : (x == ("__debug__" : Str)) = false := by decide)
    (he : starEach [a] X.env = (false, eval a X.env) :: starEach [] X.env := by rfl) (hpl : (backTo pos (starEach [] X.env)).any (·.1) = false := by rfl) : EF X W (.Call (.Name x p) [a] [] pos) (eOp1 m fa) :=
  pe_imp (pe_callB hc hg hm hv (pa_cons ha pa_nil he) hn hdb he hpl) fun σ H Q h => op1_lift (r := fun x H Q => r [x] H Q) br h
theorem e_callT (hc : CallR X (.type T) r) (br : Br1 X.K (fun x H Q => r [x] H Q) m) (hm : X.mg x = none) (hv : bootBuiltins x = some (.type T)) (ha : EF X W a fa) (hg : Gl X x := by rfl) (hn : x ≠ "__name__" := by decide) (hdb : (x == ("__debug__" : Str)) = false := by decide)
    (he : starEach [a] X.env = (false, eval a X.env) :: starEach [] X.env := by rfl) (hpl : (backTo pos (starEach [] X.env)).any (·.1) = false := by rfl) : EF X W (.Call (.Name x p) [a] [] pos) (eOp1 m fa) :=
  pe_imp (pe_callTy hc hg hm hv (pa_cons ha pa_nil he) hn hdb he hpl) fun σ H Q h => op1_lift (r := fun x H Q => r [x] H Q) br h
theorem e_callB2 (hc : CallR X (.builtin id) r) (br : Br2 X.K (fun x y H Q => r [x, y] H Q) m2) (hm : X.mg x = none) (hv : bootBuiltins x = some (.builtin id)) (ha : EF X W a fa) (hb : EF X W b fb) (hg : Gl X x := by rfl) (hn : x ≠ "__name__" := by decide) (hdb : (x == ("__debug__" : Str)) = false := by decide)
    (he : starEach [a, b] X.env = (false, eval a X.env) :: starEach [b] X.env := by rfl) (he2 : starEach [b] X.env = (false, eval b X.env) :: starEach [] X.env := by rfl) (hpl : (backTo pos (starEach [b] X.env)).any (·.1) = false := by rfl) : EF X W (.Call (.Name x p) [a, b] [] pos) (eOp2 m2 fa fb) :=
  pe_imp (pe_callB hc hg hm hv (pa_cons ha (pa_cons hb pa_nil he2) he) hn hdb he hpl) fun σ H Q h => op2_lift (r := fun x y H Q => r [x, y] H Q) br h
end
def lenM : M1 := fun p δ μ C => match p with
  | .val (.str z) => z.length ≤ sizeLine ∧ C (.val (.int z.length)) μ
  | .val (.tup ds) => C (.val (.int ds.length)) μ
  | p => match lget δ μ p with
    | some ds => C (.val (.int ds.length)) μ
    | none => False
theorem br_len {K : PySem.W.Frag} : Br1 K (fun x H Q => ∃ y n, [x] = [y] ∧ LenV K y H n ∧ Q (.int n) H) lenM := by
  intro ρ μ δ σ H p x C Q ho rp ap c hC
  unfold lenM at c
  split at c
  · exact ⟨x, _, rfl, by rw [pr_str rp]; exact ⟨c.1, rfl⟩, hC _ _ c.2 ρ H _ (ho.val fun _ => rfl) (by simp only [PR, Rep])⟩
  · obtain ⟨a, xs, rfl, e2, e3⟩ := pr_tup rp
    exact ⟨_, _, rfl, .inr ⟨xs, e2.seq, (reps_len e3)⟩, hC _ _ c ρ H _ (ho.val fun _ => rfl) (by simp only [PR, Rep])⟩
  · split at c
    · rename_i ds h
      obtain ⟨a, xs, rfl, e2, e3⟩ := lget_ok ho rp h
      exact ⟨_, _, rfl, .inl ⟨xs, e2, (reps_len e3)⟩, hC _ _ c ρ H _ (ho.val fun _ => rfl) (by simp only [PR, Rep])⟩
    · exact c.elim
def absM : M1 := fun p _ μ C => match p with
  | .val (.int i) => C (.val (.int (if i < 0 then -i else i))) μ
  | _ => False
theorem br_abs {K : PySem.W.Frag} : Br1 K (fun x H Q => ∃ i, [x] = [V.int i] ∧ Q (.int (if i < 0 then -i else i)) H) absM := by
  intro ρ μ δ σ H p x C Q ho rp ap c hC
  unfold absM at c
  split at c
  · exact ⟨_, by rw [pr_int rp], hC _ _ c ρ H _ (ho.val fun _ => rfl) (by simp only [PR, Rep])⟩
  · exact c.elim
def toIntM : M1 := fun p _ μ C => match p with
  | .val (.int i) => C (.val (.int i)) μ
  | .val (.bl b) => C (.val (.int (if b then 1 else 0))) μ
  | _ => False
theorem br_toInt {K : PySem.W.Frag} : Br1 K (fun x H Q => (∃ i, [x] = [V.int i] ∧ Q (.int i) H) ∨ ∃ k, [x] = [V.bl k] ∧ Q (.int (if k then 1 else 0)) H) toIntM := by
  intro ρ μ δ σ H p x C Q ho rp ap c hC
  unfold toIntM at c
  split at c
  · exact .inl ⟨_, by rw [pr_int rp], hC _ _ c ρ H _ (ho.val fun _ => rfl) (by simp only [PR, Rep])⟩
  · exact .inr ⟨_, by rw [pr_bl rp], hC _ _ c ρ H _ (ho.val fun _ => rfl) (by simp only [PR, Rep])⟩
  · exact c.elim
def max2M : M2 := fun p q _ μ C => match p, q with
  | .val (.int i), .val (.int j) => C (.val (.int (if j > i then j else i))) μ
  | _, _ => False
def min2M : M2 := fun p q _ μ C => match p, q with
  | .val (.int i), .val (.int j) => C (.val (.int (if j < i then j else i))) μ
  | _, _ => False
theorem br_max2 {K : PySem.W.Frag} : Br2 K (fun x y H Q => ∃ i j, [x, y] = [V.int i, V.int j] ∧ Q (.int (if j > i then j else i)) H) max2M := by
  intro ρ μ δ σ H p q x y C Q ho rp rq ap c hC
  unfold max2M at c
  split at c
  · exact ⟨_, _, by rw [pr_int rp, pr_int rq], hC _ _ c ρ H _ (ho.val fun _ => rfl) (by simp only [PR, Rep])⟩
  · exact c.elim
theorem br_min2 {K : PySem.W.Frag} : Br2 K (fun x y H Q => ∃ i j, [x, y] = [V.int i, V.int j] ∧ Q (.int (if j < i then j else i)) H) min2M := by
  intro ρ μ δ σ H p q x y C Q ho rp rq ap c hC
  unfold min2M at c
  split at c
  · exact ⟨_, _, by rw [pr_int rp, pr_int rq], hC _ _ c ρ H _ (ho.val fun _ => rfl) (by simp only [PR, Rep])⟩
  · exact c.elim
/-- the ints of a row of trees -/
def intsOf : List D → Option (List Int)
  | [] => some []
  | .int i :: r => (intsOf r).map (i :: ·)
  | _ => none
theorem intsOf_map : ∀ ns : List Int, intsOf (ns.map D.int) = some ns
  | [] => rfl
  | n :: ns => by simp only [List.map_cons, intsOf, intsOf_map ns, Option.map_some]
theorem intsOf_ok {K : PySem.W.Frag} {ρ : List Addr} {H : Hp} : ∀ {ds : List D} {vs : List V} {ns : List Int}, Reps K ρ H ds vs → intsOf ds = some ns → vs = ns.map V.int
  | [], _, _, h, e => by
    simp only [Reps] at h
    subst h
    simp only [intsOf, Option.some.injEq] at e
    subst e
    rfl
  | d :: ds, _, ns, h, e => by
    simp only [Reps] at h
    obtain ⟨v, r, rfl, h2, h3⟩ := h
    cases d with
    | int i =>
      simp only [intsOf] at e
      cases q : intsOf ds with
      | none => rw [q] at e; cases e
      | some ms =>
        rw [q] at e
        simp only [Option.map_some, Option.some.injEq] at e
        subst e
        simp only [Rep] at h2
        rw [h2, intsOf_ok h3 q]
        rfl
    | _ => simp [intsOf] at e
def sumM : M1 := fun p δ μ C => match lget δ μ p with
  | some ds => (match intsOf ds with | some ns => C (.val (.int ns.sum)) μ | none => False)
  | none => False
theorem br_sum {K : PySem.W.Frag} : Br1 K (fun x H Q => rSum K [x] H Q) sumM := by
  intro ρ μ δ σ H p x C Q ho rp ap c hC
  unfold sumM at c
  split at c
  · rename_i ds h
    split at c
    · rename_i ns e
      obtain ⟨a, xs, rfl, e2, e3⟩ := lget_ok ho rp h
      rw [intsOf_ok e3 e] at e2
      exact ⟨a, ns, rfl, e2, hC _ _ c ρ H _ (ho.val fun _ => rfl) (by simp only [PR, Rep])⟩
    · exact c.elim
  · exact c.elim
/-- tuple(xs) -/
def tupM : M1 := fun p δ μ C => match p with
  | .val (.tup ds) => C (.val (.tup ds)) μ
  | p => match lget δ μ p with
    | some ds => C (.val (.tup ds)) μ
    | none => False
theorem br_tup {K : PySem.W.Frag} : Br1 K (fun x H Q => ∃ p ys, [x] = [V.ref p] ∧ ((SqL K H p ys ∧ ∀ l, H l = none → Q (.ref l) (upd H l (.tup ys))) ∨ (SqT K H p ys ∧ Q (.ref p) H))) tupM := by
  intro ρ μ δ σ H p x C Q ho rp ap c hC
  unfold tupM at c
  split at c
  · have rp' := rp
    obtain ⟨a, xs, rfl, e2, e3⟩ := pr_tup rp
    exact ⟨a, xs, rfl, .inr ⟨e2.seq, hC _ _ c ρ H _ (ho.val fun _ => rfl) rp'⟩⟩
  · split at c
    · rename_i ds h
      obtain ⟨a, xs, rfl, e2, e3⟩ := lget_ok ho rp h
      refine ⟨a, xs, rfl, .inl ⟨e2, fun q nq => ?_⟩⟩
      obtain ⟨ev, rp'⟩ := ho.newTup nq e3
      exact hC _ _ c _ _ _ ev rp'
    · exact c.elim
/-- list(xs) -/
def listM : M1 := fun p δ μ C => match p with
  | .val (.tup ds) => ∀ a, C (.own a ds) μ
  | p => match lget δ μ p with
    | some ds => ∀ a, C (.own a ds) μ
    | none => False
theorem br_list {K : PySem.W.Frag} : Br1 K (fun x H Q => ∃ p ys, [x] = [V.ref p] ∧ (SqL K H p ys ∨ SqT K H p ys) ∧ ∀ l, H l = none → Q (.ref l) (upd H l (.lst ys))) listM := by
  intro ρ μ δ σ H p x C Q ho rp ap c hC
  unfold listM at c
  split at c
  · obtain ⟨a, xs, rfl, e2, e3⟩ := pr_tup rp
    refine ⟨a, xs, rfl, .inr e2.seq, fun q nq => ?_⟩
    obtain ⟨ev, rp'⟩ := ho.newList nq e3
    exact hC _ _ (c q) _ _ _ ev rp'
  · split at c
    · rename_i ds h
      obtain ⟨a, xs, rfl, e2, e3⟩ := lget_ok ho rp h
      refine ⟨a, xs, rfl, .inl e2, fun q nq => ?_⟩
      obtain ⟨ev, rp'⟩ := ho.newList nq e3
      exact hC _ _ (c q) _ _ _ ev rp'
    · exact c.elim
/-! ### repr -/
/-- data whose text is not too long -/
def ReprOk (d : D) : Prop := d.ok 60 = true ∧ d.py.showable = true ∧ d.py.shown.length ≤ sizeLine
def rRepr (K : PySem.W.Frag) : List V → Hp → VK → Prop := fun xs H Q => (∃ i : Int, xs = [.int i] ∧ i.natAbs.log2 < 1920 ∧ Q (.str (toString i)) H) ∨
  ∃ a d, xs = [.ref a] ∧ Dp K H (.ref a) d ∧ d.canLay0 = true ∧ d.depth ≤ 60 ∧ d.showable = true ∧ d.shown.length ≤ sizeLine ∧ Q (.str d.shown) H
theorem call_reprN {X : Cx} (hu : X.A.units + 64 < cLine) (hg : X.A.guards = some []) : CallR X (.builtin "repr") (rRepr X.K) := by
  intro pins s σ H xs us Q I r h
  rcases h with h | ⟨a, d, rfl, h1, h2, h3, h4, h5, q⟩
  · exact SkE.call_repr_int pins s σ H xs us Q I r h
  · obtain ⟨u, rfl, ru⟩ := vals1 r
    obtain rfl : u = .ref a := ru
    obtain ⟨as, rd⟩ := Dp.reads I d (.ref a) (.ref a) h1 rfl
    exact repr_of_reads' rd h4 (PyData.noDict_hsm (PyData.hasDict_of_canLay d h2)) hg (by omega) (fun _ _ e => e) (fun h' u tk hk => ⟨.str d.shown, H, I.kept hk, ⟨_, rfl⟩, q⟩) h5
def reprM : M1 := fun p δ μ C => match p with
  | .val (.int i) => i.natAbs.log2 < 1920 ∧ C (.val (.str (toString i))) μ
  | p => match pd δ μ p with
    | some (.tup ds) => ReprOk (.tup ds) ∧ C (.val (.str (D.tup ds).py.shown)) μ
    | some (.lst ds) => ReprOk (.lst ds) ∧ C (.val (.str (D.lst ds).py.shown)) μ
    | _ => False
theorem br_repr {K : PySem.W.Frag} : Br1 K (fun x H Q => rRepr K [x] H Q) reprM := by
  intro ρ μ δ σ H p x C Q ho rp ap c hC
  have via : ∀ d a, pd δ μ p = some d → x = .ref a → ReprOk d → C (.val (.str d.py.shown)) μ → rRepr K [x] H Q := fun d a e ex ok c => by
    obtain ⟨o1, o2, o3⟩ := ok
    have dp := pd_ok ho rp e (D.ok_noref _ _ o1)
    subst ex
    have l := D.ok_lay _ _ o1
    exact .inr ⟨a, d.py, rfl, dp, l.1, l.2, o2, o3, hC _ _ c ρ H _ (ho.val fun _ => rfl) (by simp only [PR, Rep])⟩
  unfold reprM at c
  split at c
  · exact .inl ⟨_, by rw [pr_int rp], c.1, hC _ _ c.2 ρ H _ (ho.val fun _ => rfl) (by simp only [PR, Rep])⟩
  · split at c
    · rename_i ds e
      have dp := pd_ok ho rp e (D.ok_noref _ _ c.1.1)
      simp only [D.py] at dp
      cases dp with
      | tup h1 h2 => exact via _ _ e rfl c.1 c.2
    · rename_i ds e
      have dp := pd_ok ho rp e (D.ok_noref _ _ c.1.1)
      simp only [D.py] at dp
      cases dp with
      | lst h1 h2 => exact via _ _ e rfl c.1 c.2
    · exact c.elim
section
variable {X : Cx} {W : WX} {p pos : Pos} {a b : Expr} {fa fb : FE}
theorem e_len (hm : X.mg "len" = none) (ha : EF X W a fa) (hg : Gl X "len" := by rfl) (he : starEach [a] X.env = (false, eval a X.env) :: starEach [] X.env := by rfl) : EF X W (.Call (.Name "len" p) [a] [] pos) (eOp1 lenM fa) := e_callB call_len br_len hm (by decide +kernel) ha hg (by decide) (by decide) he
theorem e_abs (hm : X.mg "abs" = none) (ha : EF X W a fa) (hg : Gl X "abs" := by rfl) (he : starEach [a] X.env = (false, eval a X.env) :: starEach [] X.env := by rfl) : EF X W (.Call (.Name "abs" p) [a] [] pos) (eOp1 absM fa) := e_callB call_abs br_abs hm (by decide +kernel) ha hg (by decide) (by decide) he
theorem e_toInt (hm : X.mg "int" = none) (ha : EF X W a fa) (hg : Gl X "int" := by rfl) (he : starEach [a] X.env = (false, eval a X.env) :: starEach [] X.env := by rfl) : EF X W (.Call (.Name "int" p) [a] [] pos) (eOp1 toIntM fa) := e_callT call_int1 br_toInt hm (by decide +kernel) ha hg (by decide) (by decide) he
theorem e_sum (hc : X.calm = true) (hm : X.mg "sum" = none) (ha : EF X W a fa) (hg : Gl X "sum" := by rfl) (he : starEach [a] X.env = (false, eval a X.env) :: starEach [] X.env := by rfl) : EF X W (.Call (.Name "sum" p) [a] [] pos) (eOp1 sumM fa) := e_callB (cr_sum hc) br_sum hm (by decide +kernel) ha hg (by decide) (by decide) he
theorem e_tuple (hm : X.mg "tuple" = none) (ha : EF X W a fa) (hg : Gl X "tuple" := by rfl) (he : starEach [a] X.env = (false, eval a X.env) :: starEach [] X.env := by rfl) : EF X W (.Call (.Name "tuple" p) [a] [] pos) (eOp1 tupM fa) := e_callT call_tuple_of br_tup hm (by decide +kernel) ha hg (by decide) (by decide) he
theorem e_list (hm : X.mg "list" = none) (ha : EF X W a fa) (hg : Gl X "list" := by rfl) (he : starEach [a] X.env = (false, eval a X.env) :: starEach [] X.env := by rfl) : EF X W (.Call (.Name "list" p) [a] [] pos) (eOp1 listM fa) := e_callT call_list_of br_list hm (by decide +kernel) ha hg (by decide) (by decide) he
theorem e_repr (hu : X.A.units + 64 < cLine) (gu : X.A.guards = some []) (hm : X.mg "repr" = none) (ha : EF X W a fa) (hg : Gl X "repr" := by rfl) (he : starEach [a] X.env = (false, eval a X.env) :: starEach [] X.env := by rfl) : EF X W (.Call (.Name "repr" p) [a] [] pos) (eOp1 reprM fa) := e_callB (call_reprN hu gu) br_repr hm (by decide +kernel) ha hg (by decide) (by decide) he
theorem e_max2 (hc : X.calm = true) (hm : X.mg "max" = none) (ha : EF X W a fa) (hb : EF X W b fb) (hg : Gl X "max" := by rfl) (he : starEach [a, b] X.env = (false, eval a X.env) :: starEach [b] X.env := by rfl) (he2 : starEach [b] X.env = (false, eval b X.env) :: starEach [] X.env := by rfl) (hpl : (backTo pos (starEach [b] X.env)).any (·.1) = false := by rfl) : EF X W (.Call (.Name "max" p) [a, b] [] pos) (eOp2 max2M fa fb) := e_callB2 (call_max2 hc) br_max2 hm (by decide +kernel) ha hb hg (by decide) (by decide) he he2 hpl
theorem e_min2 (hc : X.calm = true) (hm : X.mg "min" = none) (ha : EF X W a fa) (hb : EF X W b fb) (hg : Gl X "min" := by rfl) (he : starEach [a, b] X.env = (false, eval a X.env) :: starEach [b] X.env := by rfl) (he2 : starEach [b] X.env = (false, eval b X.env) :: starEach [] X.env := by rfl) (hpl : (backTo pos (starEach [b] X.env)).any (·.1) = false := by rfl) : EF X W (.Call (.Name "min" p) [a, b] [] pos) (eOp2 min2M fa fb) := e_callB2 (call_min2 hc) br_min2 hm (by decide +kernel) ha hb hg (by decide) (by decide) he he2 hpl
end
end NT

/-! NT: calls of defs and methods, objects made, fields read. -/
namespace NT
open PySem PySem.Spec PyProof.Rows L2

/-- a class's instances have this field and no class above has the name -/
def FOk (K : PySem.W.Frag) (C : Addr) (f : Str) : Prop := Cls K C ∧ NoAttr K C f
def eCall (g : FN) (r : FA) : FE := fun δ μ C E => r δ μ (fun ds μ1 => g ds μ1 C E) E
def eMeth (tbl : Addr → Option FN) (m : Str) (o : FE) (r : FA) : FE := fun δ μ C E => o δ μ (fun p μ1 => match p with
  | .val (.ref n) => (match μ1[n]? with
    | some (.ins c fs) => (match tbl c with
      | some g => fs.lookup m = none ∧ r δ μ1 (fun ds μ2 => g (.ref n :: ds) μ2 C E) E
      | none => False)
    | _ => False)
  | _ => False) E
def eMake (c : Addr) (g : FN) (r : FA) : FE := fun δ μ C E => r δ μ (fun ds μ1 => g (.ref μ1.length :: ds) (μ1 ++ [.ins c []]) (fun p μ2 => p = .val .non ∧ C (.val (.ref μ1.length)) μ2) E) E
def eFld (K : PySem.W.Frag) (f : Str) (o : FE) : FE := fun δ μ C E => o δ μ (fun p μ1 => match p with
  | .val (.ref n) => (match μ1[n]? with
    | some (.ins c fs) => FOk K c f ∧ (match fs.lookup f with
      | some (.own a _) => C (.bor a (.fld n f)) μ1
      | some p => C p μ1
      | none => False)
    | _ => False)
  | _ => False) E

section
variable {X : Cx} {W : WX} {k : Nat} {f c : Addr} {g : FN} {x m : Str} {p pos apos : Pos} {e o : Expr} {es : List Expr} {fo : FE} {r : FA}
theorem run_g {pins : List (Addr × Obj)} {σ : L2.St} {H : Hp} {s : Shared} {Q : VK} {us : List Value} {vs : List V} (F : FnG X.prog X.w X.K X.mg X.base k f g) (hr : Room k X.A) (gu : X.A.guards = some []) (tk : Takes X W)
    (I : Inv X pins σ H s) (rv : Vals vs us) (h : spOf X.K g vs H Q (WE W σ)) : wpAny (model X.prog X.w) X.A (call (.ref f) us) (EP X pins σ Q) X.xe s := by
  refine wpAny_call (codeAny_mono (F.run X.A X.stack s H us vs Q (WE W σ) hr gu I.env0 rv h) fun res s' hq => ?_)
  cases res with
  | error ex => exact passAt tk σ pins H s ex s' I hq
  | ok fl =>
    cases fl with
    | ret u => exact I.after hq
    | _ => exact False.elim hq
/-- the promise that a call's arguments bring -/
theorem sp_args {K : PySem.W.Frag} {ρ ρ1 : List Addr} {μ μ1 : Mu} {δ : Sl} {σ : L2.St} {H H1 : Hp} {Q : VK} {C : P → Mu → Prop} {E : CX} {ds : List D} {vs : List V} (ho : Hold K ρ μ δ σ H) (e1 : Evo K (footM ρ μ) ρ H ρ1 μ1 H1 F0) (r1 : Reps K ρ1 H1 ds vs)
    (hC : ∀ p μ', C p μ' → ∀ ρ' H' v, Evo K (footM ρ μ) ρ H ρ' μ' H' (footP p) → PR K ρ' H' p v → Q v H') (hX : XOut K W ρ μ σ H E) (c : g ds μ1 C E) : spOf K g vs H1 Q (WE W σ) :=
  ⟨ρ1, μ1, ds, C, E, e1.sm, (ho.after e1).le, r1, c, fun p μ' c2 ρ' H' v e2 r2 => hC p μ' c2 ρ' H' v (e1.transM e2) r2, fun y μ' c2 ρ' H' cls d e2 r2 => hX y μ' c2 ρ' H' cls d (e1.transM e2) r2⟩
theorem e_call (F : FnG X.prog X.w X.K X.mg X.base k f g) (hr : Room k X.A) (gu : X.A.guards = some []) (tk : Takes X W) (hm : X.mg x = some (.ref f)) (ha : AF X W (e :: es) r) (hg : Gl X x := by rfl) (hdb : (x == ("__debug__" : Str)) = false := by decide)
    (he : starEach (e :: es) X.env = (false, eval e X.env) :: starEach es X.env := by rfl) (hpl : (backTo pos (starEach es X.env)).any (·.1) = false := by rfl) : EF X W (.Call (.Name x p) (e :: es) [] pos) (eCall g r) := by
  refine ⟨fun pins s σ H Q I ⟨ρ, μ, δ, C, E, ho, c, hC, hX⟩ => ?_⟩
  refine wpAny_Call_Name_kw (ld_glob (X := X) I hg hm ?_ hdb)
  refine PySem.W.callWith_K (h₀ := X.base) I.ok.mod.kin F.kp (thn (ha.run pos pins s σ H (fun vs H1 => spOf X.K g vs H1 Q (WE W σ)) I ⟨ρ, μ, δ, _, E, ho, c, fun ds μ1 c1 ρ1 H1 vs e1 r1 => sp_args ho e1 r1 hC hX c1, hX⟩) fun us s1 hh => ?_) he hpl
  obtain ⟨vs, H1, I1, rv, q⟩ := hh
  exact ⟨I1.kIn, run_g F hr gu tk I1 rv q⟩
theorem e_call0 (F : FnG X.prog X.w X.K X.mg X.base k f g) (hr : Room k X.A) (gu : X.A.guards = some []) (tk : Takes X W) (hm : X.mg x = some (.ref f)) (hg : Gl X x := by rfl) (hdb : (x == ("__debug__" : Str)) = false := by decide) : EF X W (.Call (.Name x p) [] [] pos) (eCall g aNil) := by
  refine ⟨fun pins s σ H Q I ⟨ρ, μ, δ, C, E, ho, c, hC, hX⟩ => ?_⟩
  refine wpAny_Call_Name_kw (ld_glob (X := X) I hg hm ?_ hdb)
  exact PySem.W.callWith_K0 I.kIn F.kp (run_g (us := []) F hr gu tk I .nil (sp_args ho ho.refl reps_nil hC hX c))
/-- a table of methods by class -/
def MtOk (X : Cx) (k : Nat) (m : Str) (tbl : Addr → Option FN) : Prop := ∀ c g, tbl c = some g → ∃ f, Cls X.K c ∧ Meth X.K c m f ∧ FnG X.prog X.w X.K X.mg X.base k f g
/-- the receiver: an instance, its class's method -/
theorem meth_at {K : PySem.W.Frag} {ρ : List Addr} {μ : Mu} {H : Hp} {n : Nat} {fs : List (Str × P)} {v : V} (sm : SM K ρ μ H) (q : μ[n]? = some (.ins c fs)) (rp : PR K ρ H (.val (.ref n)) v) (hm : fs.lookup m = none) :
    ∃ a dx vs, v = .ref a ∧ ρ[n]? = some a ∧ H a = some (.ins c dx vs) ∧ vs.lookup m = none := by
  simp only [PR, Rep] at rp
  obtain ⟨a, rfl, h2⟩ := rp
  obtain ⟨b, h3, dx, vs, h4, h5⟩ := sm.obj n _ q
  rw [h2] at h3
  cases h3
  exact ⟨a, dx, vs, rfl, h2, h4, fs_none h5 hm⟩
theorem e_meth {pl : Sem Bool} {tbl : Addr → Option FN} (T : MtOk X k m tbl) (hr : Room k X.A) (gu : X.A.guards = some []) (tk : Takes X W) (h1 : EF X W o fo) (ha : AF X W (e :: es) r)
    (he : starEach (e :: es) X.env = (false, eval e X.env) :: starEach es X.env := by rfl) (hpl : (backTo pos (starEach es X.env)).any (·.1) = false := by rfl)
    (ht : eval (.Call (.Attribute o m apos) (e :: es) [] pos) X.env = (do
      let ov ← eval o X.env
      standAt apos.atName
      let (f, first) ← holding [ov] (getMethod ov m pl)
      callWith pos f first (backTo pos (starEach (e :: es) X.env)) (backToKw pos (keywordEach [] X.env))) := by rfl) : EF X W (.Call (.Attribute o m apos) (e :: es) [] pos) (eMeth tbl m fo r) := by
  refine ⟨fun pins s σ H Q I ⟨ρ, μ, δ, C, E, ho, c, hC, hX⟩ => ?_⟩
  let Q1 : VK := fun v H1 => ∃ a c f g dx vs, v = .ref a ∧ H1 a = some (.ins c dx vs) ∧ vs.lookup m = none ∧ Cls X.K c ∧ Meth X.K c m f ∧ FnG X.prog X.w X.K X.mg X.base k f g ∧ liftA X.K W r σ H1 fun ws H2 => spOf X.K g (.ref a :: ws) H2 Q (WE W σ)
  have s1 : liftE X.K W fo σ H Q1 := by
    refine ⟨ρ, μ, δ, _, E, ho, c, fun p μ1 c1 ρ1 H1 v1 e1 r1 => ?_, hX⟩
    split at c1
    · rename_i n
      split at c1
      · rename_i c fs q
        split at c1
        · rename_i g hg
          obtain ⟨f, t1, t2, t3⟩ := T c g hg
          obtain ⟨a, dx, vs, rfl, hρ, h3, h4⟩ := meth_at e1.sm q r1 c1.1
          refine ⟨a, c, f, g, dx, vs, rfl, h3, h4, t1, t2, t3, ρ1, μ1, δ, _, E, ho.after e1, c1.2, fun ds μ2 c2 ρ2 H2 ws e2 r2 => ?_, hX.after e1⟩
          refine sp_args (ds := .ref n :: ds) ho (e1.drop.transM e2) ?_ hC hX c2
          refine reps_cons ?_ r2
          simp only [Rep]
          exact ⟨a, rfl, e2.ext n a hρ⟩
        · exact c1.elim
      · exact c1.elim
    · exact c1.elim
  refine PySem.W.methodCall_KW (pl := pl) (thn (h1.run pins s σ H Q1 I s1) fun u s1 hh => ?_) ht
  obtain ⟨v, H1, I1, rv, a, c, f, g, dx, vs, rfl, h3, h4, t1, t2, t3, la⟩ := hh
  obtain rfl : u = Value.ref a := rv
  refine getmeth_ok I1 h3 t1 t2 h4 ?_
  refine PySem.W.callWith_K (first := [.ref a]) (h₀ := X.base) I.ok.mod.kin t2.kp (thn (ha.run pos pins s1 σ H1 _ I1 la) fun us s2 hk => ?_) he hpl
  obtain ⟨ws, H2, I2, rw', q2⟩ := hk
  exact ⟨I2.kIn, run_g (us := .ref a :: us) (vs := .ref a :: ws) t3 hr gu tk I2 (.cons rfl rw') q2⟩
theorem e_meth0 {pl : Sem Bool} {tbl : Addr → Option FN} (T : MtOk X k m tbl) (hr : Room k X.A) (gu : X.A.guards = some []) (tk : Takes X W) (h1 : EF X W o fo)
    (ht : eval (.Call (.Attribute o m apos) [] [] pos) X.env = (do
      let ov ← eval o X.env
      standAt apos.atName
      let (f, first) ← holding [ov] (getMethod ov m pl)
      callWith pos f first (backTo pos (starEach [] X.env)) (backToKw pos (keywordEach [] X.env))) := by rfl) : EF X W (.Call (.Attribute o m apos) [] [] pos) (eMeth tbl m fo aNil) := by
  refine ⟨fun pins s σ H Q I ⟨ρ, μ, δ, C, E, ho, c, hC, hX⟩ => ?_⟩
  let Q1 : VK := fun v H1 => ∃ a c f g dx vs, v = .ref a ∧ H1 a = some (.ins c dx vs) ∧ vs.lookup m = none ∧ Cls X.K c ∧ Meth X.K c m f ∧ FnG X.prog X.w X.K X.mg X.base k f g ∧ spOf X.K g [.ref a] H1 Q (WE W σ)
  have s1 : liftE X.K W fo σ H Q1 := by
    refine ⟨ρ, μ, δ, _, E, ho, c, fun p μ1 c1 ρ1 H1 v1 e1 r1 => ?_, hX⟩
    split at c1
    · rename_i n
      split at c1
      · rename_i c fs q
        split at c1
        · rename_i g hg
          obtain ⟨f, t1, t2, t3⟩ := T c g hg
          obtain ⟨a, dx, vs, rfl, hρ, h3, h4⟩ := meth_at e1.sm q r1 c1.1
          refine ⟨a, c, f, g, dx, vs, rfl, h3, h4, t1, t2, t3, ?_⟩
          refine sp_args (ds := [.ref n]) ho e1.drop ?_ hC hX c1.2
          refine reps_cons ?_ reps_nil
          simp only [Rep]
          exact ⟨a, rfl, hρ⟩
        · exact c1.elim
      · exact c1.elim
    · exact c1.elim
  refine PySem.W.methodCall_KW (pl := pl) (thn (h1.run pins s σ H Q1 I s1) fun u s1 hh => ?_) ht
  obtain ⟨v, H1, I1, rv, a, c, f, g, dx, vs, rfl, h3, h4, t1, t2, t3, la⟩ := hh
  obtain rfl : u = Value.ref a := rv
  refine getmeth_ok I1 h3 t1 t2 h4 ?_
  exact PySem.W.callWith_K0 (first := [.ref a]) I1.kIn t2.kp (run_g (us := [.ref a]) (vs := [.ref a]) t3 hr gu tk I1 (.cons rfl .nil) la)
/-- a new instance in the store -/
theorem Hold.newIns {K : PySem.W.Frag} {ρ : List Addr} {μ : Mu} {δ : Sl} {σ : L2.St} {H : Hp} (h : Hold K ρ μ δ σ H) {y dx : Addr} (n1 : H y = none) (n2 : H dx = none) (ne : dx ≠ y) :
    Evo K (footM ρ μ) ρ H (ρ ++ [y]) (μ ++ [.ins c []]) (upd (upd H dx (.own y)) y (.ins c dx [])) F0 := by
  have e1 : Evo K (footM ρ μ) ρ H ρ μ (upd H dx (.own y)) F0 := (Evo.new h.sm h.le n2).drop
  have n3 : upd H dx (.own y) y = none := by rw [upd_ne (Ne.symm ne)]; exact n1
  exact e1.transM (Evo.push e1.sm h.le n3 (fun _ => rfl) ⟨dx, [], upd_same, rfl⟩)
theorem run_mk {pins : List (Addr × Obj)} {σ : L2.St} {H : Hp} {s : Shared} {Q : VK} {us : List Value} {vs : List V} (M : Mk X.K c f) (F : FnG X.prog X.w X.K X.mg X.base k f g) (hr : Room (k + 1) X.A) (gu : X.A.guards = some []) (tk : Takes X W)
    (I : Inv X pins σ H s) (rv : Vals vs us) (h : ∀ y dx, H y = none → H dx = none → dx ≠ y → spOf X.K g (.ref y :: vs) (upd (upd H dx (.own y)) y (.ins c dx [])) (fun v H2 => v = .non ∧ Q (.ref y) H2) (WE W σ)) :
    wpAny (model X.prog X.w) X.A (call (.ref c) us) (EP X pins σ Q) X.xe s := by
  have hq := h (s.heap.objs.size + 1) s.heap.objs.size (I.hok.fresh (Nat.le_succ _)) (I.hok.fresh (Nat.le_refl _)) (Nat.ne_of_lt (Nat.lt_succ_self _))
  have J := Inv.made (C := c) I
  have gu2 : (X.A.under (.builtin "type.__call__" ⟨.ref c :: us, []⟩)).guards = some [] := by
    have q : (Code.builtin "type.__call__" ⟨.ref c :: us, []⟩).guards = [] := by
      have z : (Code.builtin "type.__call__" ⟨.ref c :: us, []⟩).isGuard = false := by
        show guardIds.contains "type.__call__" = false
        decide +kernel
      simp only [Code.guards, z, Bool.false_eq_true, if_false]
    simp only [Around.under, q, pushGuards, gu]
  refine wpAny_call (make_map (f := f) I.kIn M.makes M.init (beq_iff_eq.mp M.fn) (codeAny_mono (F.run _ X.stack _ _ (Value.ref (s.heap.objs.size + 1) :: us) (V.ref (s.heap.objs.size + 1) :: vs) _ (WE W σ) (hr.make c us []) gu2 (J.env0.make c us []) (.cons rfl rv) hq) fun res s' hq' => ?_))
  cases res with
  | error ex => exact passAt tk σ pins _ _ ex s' J hq'
  | ok fl =>
    cases fl with
    | ret u =>
      obtain ⟨v, H', J2, rv2, ev, q3⟩ := J.after hq'
      subst ev
      exact ⟨rv2, ⟨V.ref (s.heap.objs.size + 1), H', J2, rfl, q3⟩⟩
    | _ => exact False.elim hq'
theorem sp_make {K : PySem.W.Frag} {ρ ρ1 : List Addr} {μ μ1 : Mu} {δ : Sl} {σ : L2.St} {H H1 : Hp} {Q : VK} {C : P → Mu → Prop} {E : CX} {ds : List D} {vs : List V} (ho : Hold K ρ μ δ σ H) (e1 : Evo K (footM ρ μ) ρ H ρ1 μ1 H1 F0) (r1 : Reps K ρ1 H1 ds vs)
    (hC : ∀ p μ', C p μ' → ∀ ρ' H' v, Evo K (footM ρ μ) ρ H ρ' μ' H' (footP p) → PR K ρ' H' p v → Q v H') (hX : XOut K W ρ μ σ H E)
    (q : g (.ref μ1.length :: ds) (μ1 ++ [.ins c []]) (fun p μ2 => p = .val .non ∧ C (.val (.ref μ1.length)) μ2) E) :
    ∀ y dx, H1 y = none → H1 dx = none → dx ≠ y → spOf K g (.ref y :: vs) (upd (upd H1 dx (.own y)) y (.ins c dx [])) (fun v H2 => v = .non ∧ Q (.ref y) H2) (WE W σ) := by
  intro y dx n1 n2 ne
  have h1 := ho.after e1
  have e2 : Evo K (footM ρ1 μ1) ρ1 H1 (ρ1 ++ [y]) (μ1 ++ [.ins c []]) (upd (upd H1 dx (.own y)) y (.ins c dx [])) F0 := h1.newIns n1 n2 ne
  have ey : (ρ1 ++ [y])[μ1.length]? = some y := by rw [← h1.sm.len]; simp
  refine ⟨_, _, .ref μ1.length :: ds, _, E, e2.sm, fun x => by have := e2.one x; omega, reps_cons ?_ (r1.stay (e2.stayM h1.sm) e2.ext), q, fun p μ' c2 ρ' H' v e3 r3 => ?_, fun z μ' c2 ρ' H' cls d e3 r3 => hX z μ' c2 ρ' H' cls d ((e1.transM e2).transM e3) r3⟩
  · simp only [Rep]
    exact ⟨y, rfl, ey⟩
  · obtain ⟨rfl, c3⟩ := c2
    refine ⟨pr_non r3, hC _ μ' c3 ρ' H' _ ((e1.transM e2).transM e3) ?_⟩
    simp only [PR, Rep]
    exact ⟨y, rfl, e3.ext _ _ ey⟩
theorem e_make (M : Mk X.K c f) (F : FnG X.prog X.w X.K X.mg X.base k f g) (hr : Room (k + 1) X.A) (gu : X.A.guards = some []) (tk : Takes X W) (hm : X.mg x = some (.ref c)) (ha : AF X W (e :: es) r) (hg : Gl X x := by rfl) (hdb : (x == ("__debug__" : Str)) = false := by decide)
    (he : starEach (e :: es) X.env = (false, eval e X.env) :: starEach es X.env := by rfl) (hpl : (backTo pos (starEach es X.env)).any (·.1) = false := by rfl) : EF X W (.Call (.Name x p) (e :: es) [] pos) (eMake c g r) := by
  refine ⟨fun pins s σ H Q I ⟨ρ, μ, δ, C, E, ho, q, hC, hX⟩ => ?_⟩
  refine wpAny_Call_Name_kw (ld_glob (X := X) I hg hm ?_ hdb)
  refine PySem.W.callWith_K (h₀ := X.base) I.ok.mod.kin M.kp (thn (ha.run pos pins s σ H (fun vs H1 => ∀ y dx, H1 y = none → H1 dx = none → dx ≠ y → spOf X.K g (.ref y :: vs) (upd (upd H1 dx (.own y)) y (.ins c dx [])) (fun v H2 => v = .non ∧ Q (.ref y) H2) (WE W σ)) I
    ⟨ρ, μ, δ, _, E, ho, q, fun ds μ1 c1 ρ1 H1 vs e1 r1 => sp_make ho e1 r1 hC hX c1, hX⟩) fun us s1 hh => ?_) he hpl
  obtain ⟨vs, H1, I1, rv, q1⟩ := hh
  exact ⟨I1.kIn, run_mk M F hr gu tk I1 rv q1⟩
theorem e_make0 (M : Mk X.K c f) (F : FnG X.prog X.w X.K X.mg X.base k f g) (hr : Room (k + 1) X.A) (gu : X.A.guards = some []) (tk : Takes X W) (hm : X.mg x = some (.ref c)) (hg : Gl X x := by rfl) (hdb : (x == ("__debug__" : Str)) = false := by decide) : EF X W (.Call (.Name x p) [] [] pos) (eMake c g aNil) := by
  refine ⟨fun pins s σ H Q I ⟨ρ, μ, δ, C, E, ho, q, hC, hX⟩ => ?_⟩
  refine wpAny_Call_Name_kw (ld_glob (X := X) I hg hm ?_ hdb)
  exact PySem.W.callWith_K0 I.kIn M.kp (run_mk (us := []) M F hr gu tk I .nil (sp_make ho ho.refl reps_nil hC hX q))
theorem e_fld {fl : Str} (ha : EF X W o fo) (hb : attributeBase o fl X.env (eval o X.env) = eval o X.env := by rfl) : EF X W (.Attribute o fl pos) (eFld X.K fl fo) := pe_imp (pe_fld ha hb) fun σ H Q ⟨ρ, μ, δ, C, E, ho, c, hC, hX⟩ =>
  ⟨ρ, μ, δ, _, E, ho, c, fun p μ1 c1 ρ1 H1 v1 e1 r1 => by
    split at c1
    · rename_i n
      split at c1
      · rename_i c fs q
        obtain ⟨⟨k1, k2⟩, c1⟩ := c1
        simp only [PR, Rep] at r1
        obtain ⟨a, rfl, h2⟩ := r1
        obtain ⟨b, h3, dx, vs, h4, h5⟩ := e1.sm.obj n _ q
        rw [h2] at h3
        cases h3
        split at c1
        · rename_i y ds z
          obtain ⟨v, h6, h7, _⟩ := fs_lookup h5 z
          exact ⟨a, c, dx, vs, v, rfl, h4, k1, k2, h6, hC _ μ1 c1 ρ1 H1 v e1 h7⟩
        · rename_i w hne z
          obtain ⟨v, h6, h7⟩ := fs_lookup h5 z
          refine ⟨a, c, dx, vs, v, rfl, h4, k1, k2, h6, hC _ μ1 c1 ρ1 H1 v (e1.less fun x => ?_) h7⟩
          cases w with
          | own a ds => exact absurd rfl (hne a ds)
          | _ => exact Nat.zero_le _
        · exact c1.elim
      · exact c1.elim
    · exact c1.elim, hX⟩
end
end NT

/-! NT: targets, assignments, blocks, if, return. -/
namespace NT
open PySem PySem.Spec PyProof.Rows L2

abbrev EX := EV → Sl → Mu → Prop
/-- a target: what is stored -/
abbrev FG := P → Sl → Mu → (Sl → Mu → Prop) → EX → Prop
abbrev FGs := List P → Sl → Mu → (Sl → Mu → Prop) → EX → Prop
def footL : List P → Addr → Nat
  | [], _ => 0
  | p :: r, x => footP p x + footL r x
def PRs (K : PySem.W.Frag) (ρ : List Addr) (H : Hp) : List P → List V → Prop
  | [], vs => vs = []
  | p :: r, vs => ∃ v t, vs = v :: t ∧ PR K ρ H p v ∧ PRs K ρ H r t
/-- with F pending besides the slots -/
def SOutF (K : PySem.W.Frag) (B : Addr → Nat) (ρ : List Addr) (H : Hp) (F : Addr → Nat) (C : Sl → Mu → Prop) (N : L2.St → Hp → Prop) : Prop :=
  ∀ δ' μ', C δ' μ' → ∀ ρ' σ' H', Evo K B ρ H ρ' μ' H' (fun x => F x + footS δ' x) → SS K ρ' H' δ' σ' → N σ' H'
def XOutS (K : PySem.W.Frag) (W : WX) (B : Addr → Nat) (ρ : List Addr) (H : Hp) (E : EX) : Prop :=
  ∀ x δ' μ', E x δ' μ' → ∀ ρ' σ' H' cls d, Evo K B ρ H ρ' μ' H' (footS δ') → SS K ρ' H' δ' σ' → XR K ρ' H' x cls d → W cls d σ' H'
/-- what is pending and held -/
abbrev footP1 (p : P) (ρ : List Addr) (μ : Mu) (δ : Sl) : Addr → Nat := fun x => footP p x + footB ρ μ δ x
abbrev footL1 (ps : List P) (ρ : List Addr) (μ : Mu) (δ : Sl) : Addr → Nat := fun x => footL ps x + footB ρ μ δ x
def liftG (K : PySem.W.Frag) (W : WX) (g : FG) : TG := fun v σ H Q => ∃ ρ μ δ p C E, Hold K ρ μ δ σ H ∧ PR K ρ H p v ∧ (∀ x, footP1 p ρ μ δ x ≤ 1) ∧ g p δ μ C E ∧
  (∀ δ' μ', C δ' μ' → ∀ ρ' σ' H', Evo K (footP1 p ρ μ δ) ρ H ρ' μ' H' (footS δ') → SS K ρ' H' δ' σ' → Q σ' H') ∧ XOutS K W (footP1 p ρ μ δ) ρ H E
def GF (X : Cx) (W : WX) (e : Expr) (g : FG) : Prop := PG X e (liftG X.K W g)

section
variable {K : PySem.W.Frag} {W : WX} {ρ ρ1 ρ2 : List Addr} {μ μ1 μ2 : Mu} {δ δ1 : Sl} {σ σ1 : L2.St} {H H1 H2 : Hp} {F : Addr → Nat} {E : CX}
theorem footS_set : ∀ {δ : Sl} {i : Nat} {so : Option P} (s' : Option P) (x : Addr), δ[i]? = some so → footS (δ.set i s') x + (so.elim 0 fun p => footP p x) = footS δ x + (s'.elim 0 fun p => footP p x)
  | [], _, _, _, _, h => by simp at h
  | none :: δ, 0, _, s', x, h => by
    simp at h
    subst h
    cases s' <;> simp [footS] <;> omega
  | some q :: δ, 0, _, s', x, h => by
    simp at h
    subst h
    cases s' <;> simp [footS] <;> omega
  | none :: δ, i + 1, _, s', x, h => by
    have := footS_set (δ := δ) (i := i) s' x (by simpa using h)
    simpa only [List.set_cons_succ, footS] using this
  | some q :: δ, i + 1, _, s', x, h => by
    have := footS_set (δ := δ) (i := i) s' x (by simpa using h)
    simp only [List.set_cons_succ, footS]
    omega
theorem footS_le (δ : Sl) (i : Nat) (p : P) (x : Addr) : footS (δ.set i (some p)) x ≤ footS δ x + footP p x := by
  cases q : δ[i]? with
  | none =>
    have hl : δ.length ≤ i := List.getElem?_eq_none_iff.mp q
    rw [List.set_eq_of_length_le hl]
    omega
  | some so =>
    have := footS_set (some p) x q
    cases so <;> simp at this <;> omega
theorem SS.put {i : Nat} {p : P} {v : V} (h : SS K ρ H δ σ) (r : PR K ρ H p v) : SS K ρ H (δ.set i (some p)) (σ.set i (some v)) := by
  refine ⟨by simp [h.len], fun j q e => ?_⟩
  by_cases hj : i = j
  · subst hj
    have hi : i < δ.length := by
      by_cases hi : i < δ.length
      · exact hi
      · rw [List.set_eq_of_length_le (by omega), List.getElem?_eq_none (by omega)] at e
        cases e
    rw [List.getElem?_set_self hi] at e
    cases e
    exact ⟨v, by rw [List.getElem?_set_self (by rw [← h.len]; exact hi)], r⟩
  · rw [List.getElem?_set_ne hj] at e
    obtain ⟨u, h1, h2⟩ := h.at_ j q e
    exact ⟨u, by rw [List.getElem?_set_ne hj]; exact h1, h2⟩
/-- another view of a slot -/
theorem SS.view {i : Nat} {p : P} {v : V} (h : SS K ρ H δ σ) (e : σ[i]? = some (some v)) (r : PR K ρ H p v) : SS K ρ H (δ.set i (some p)) σ := by
  have q := h.put (i := i) r
  rwa [show σ.set i (some v) = σ from List.ext_getElem? fun j => by
    by_cases hj : i = j
    · subst hj
      rw [List.getElem?_set_self (List.getElem?_eq_some_iff.mp e).1, e]
    · rw [List.getElem?_set_ne hj]] at q
theorem SS.forget (i : Nat) (h : SS K ρ H δ σ) : SS K ρ H (δ.set i none) σ := by
  refine ⟨by simp [h.len], fun j q e => ?_⟩
  by_cases hj : i = j
  · subst hj
    by_cases hi : i < δ.length
    · rw [List.getElem?_set_self hi] at e
      cases e
    · rw [List.set_eq_of_length_le (by omega)] at e
      exact h.at_ i q e
  · rw [List.getElem?_set_ne hj] at e
    exact h.at_ j q e
/-- a name's slot takes what is pending -/
theorem evo_put {p : P} (i : Nat) (h : SM K ρ μ H) (one : ∀ x, footP1 p ρ μ δ x ≤ 1) : Evo K (footP1 p ρ μ δ) ρ H ρ μ H (footS (δ.set i (some p))) := by
  have le := footS_le δ i p
  refine ⟨h, Ext.refl ρ, fun a o q _ => q, fun x q => .inl ?_, fun x => ?_⟩
  · have := le x
    show 1 ≤ footP p x + (footS δ x + footM ρ μ x)
    omega
  · have := le x
    have h1 : footP p x + (footS δ x + footM ρ μ x) ≤ 1 := one x
    omega
end
def gNm (i : Nat) : FG := fun p δ μ C _ => C (δ.set i (some p)) μ
/-- a list of a slot that is moved -/
def moved (δ : Sl) (C : P → Sl → Prop) : P → Prop
  | .val d => C (.val d) δ
  | .own a ds => C (.own a ds) δ
  | .bor a (.slot i) => match δ[i]? with
    | some (some (.own b ds)) => b = a ∧ C (.own b ds) (δ.set i none)
    | _ => False
  | .bor _ (.fld _ _) => False
def putP (f : Str) (v : P) : List (Str × P) → List (Str × P)
  | [] => [(f, v)]
  | (g, x) :: r => if g = f then (g, v) :: r else (g, x) :: putP f v r
def gFd (K : PySem.W.Frag) (f : Str) (fo : FE) : FG := fun p δ μ C E => fo δ μ (fun q μ1 => match q with
  | .val (.ref n) => (match μ1[n]? with
    | some (.ins c fs) => (FOk K c f ∧ fs.length < 1000) ∧ moved δ (fun p' δ' => C δ' (μ1.set n (.ins c (putP f p' fs)))) p
    | _ => False)
  | _ => False) (fun x μ' => E x δ μ')
section
variable {K : PySem.W.Frag} {W : WX} {ρ ρ1 ρ2 : List Addr} {μ μ1 μ2 : Mu} {δ δ1 : Sl} {σ σ1 : L2.St} {H H1 H2 : Hp} {F : Addr → Nat} {E : CX}
theorem footF_put (f : Str) (p : P) (x : Addr) : ∀ fs : List (Str × P), footF (putP f p fs) x ≤ footF fs x + footP p x
  | [] => by simp [putP, footF]
  | (g, q) :: r => by
    have ih := footF_put f p x r
    simp only [putP]
    split
    · simp only [footF]; omega
    · simp only [footF]; omega
theorem fsR_put {f : Str} {p : P} {v : V} (r : PR K ρ H p v) : ∀ {fs : List (Str × P)} {vs : List (Str × V)}, FsR K ρ H fs vs → FsR K ρ H (putP f p fs) (putF f v vs)
  | [], vs, h => by
    have h' : vs = [] := h
    subst h'
    exact ⟨v, [], rfl, r, rfl⟩
  | (g, q) :: fs, vs, h => by
    obtain ⟨u, t, rfl, h2, h3⟩ := h
    simp only [putP, putF]
    split
    · exact ⟨v, t, rfl, r, h3⟩
    · exact ⟨u, _, rfl, h2, fsR_put r h3⟩
theorem fsR_len : ∀ {fs : List (Str × P)} {vs : List (Str × V)}, FsR K ρ H fs vs → fs.length = vs.length
  | [], vs, h => by have h' : vs = [] := h; subst h'; rfl
  | (g, q) :: fs, vs, h => by
    obtain ⟨u, t, rfl, h2, h3⟩ := h
    simp [fsR_len h3]
/-- a way of the store, with the rest of what is held -/
theorem Evo.frame {B R : Addr → Nat} (e : Evo K B ρ H ρ1 μ1 H1 F) (hR : ∀ x, 1 ≤ R x → ∃ o, H x = some o) (one : ∀ x, R x + B x ≤ 1) : Evo K (fun x => R x + B x) ρ H ρ1 μ1 H1 (fun x => F x + R x) := by
  have z : ∀ x, 1 ≤ R x → F x + footM ρ1 μ1 x = 0 := fun x q => by
    by_cases w : 1 ≤ F x + footM ρ1 μ1 x
    · have h1 := one x
      rcases e.grow x w with r | r
      · omega
      · obtain ⟨o, t⟩ := hR x q
        rw [t] at r
        cases r
    · omega
  refine ⟨e.sm, e.ext, fun a o q w => e.keep a o q (by have w' : R a + B a = 0 := w; omega), fun x q => ?_, fun x => ?_⟩
  · by_cases w : 1 ≤ R x
    · exact .inl (show 1 ≤ R x + B x by omega)
    · rcases e.grow x (by omega) with r | r
      · exact .inl (show 1 ≤ R x + B x by omega)
      · exact .inr r
  · by_cases w : 1 ≤ R x
    · have := z x w
      have := one x
      omega
    · have := e.one x
      omega
/-- the slots that are not touched by a way -/
theorem SS.through {B : Addr → Nat} (h : SS K ρ H δ σ) (e : Evo K B ρ H ρ1 μ1 H1 F) (st : Stay H H1) (ap : ∀ x, 1 ≤ footS δ x → B x = 0) : SS K ρ1 H1 δ σ := h.stay st e.ext fun a o q r => e.keep a o r (ap a q)
end
section
variable {X : Cx} {W : WX} {pos : Pos}
theorem pg_imp {X : Cx} {e : Expr} {t t' : TG} (h : PG X e t) (i : ∀ v σ H Q, t' v σ H Q → t v σ H Q) : PG X e t' := ⟨fun pins s σ H v u Q I r q => h.run pins s σ H v u Q I r (i v σ H Q q)⟩
theorem g_nm {i : Nat} {x : Str} (hN : X.N.Nodup) (hi : X.N[i]? = some x := by rfl) (hx : Loc X.env.scope x := by first | exact Or.inl rfl | exact Or.inr rfl) (hf : X.fn x = true ∨ X.env.scope.names.lookup x = some .local := by first | exact .inl rfl | exact .inr rfl | assumption) : GF X W (.Name x pos) (gNm i) :=
  pg_imp (pg_name hN hi hx hf) fun v σ H Q ⟨ρ, μ, δ, p, C, E, ho, r, one, c, hC, hX⟩ => hC _ _ c ρ _ H (evo_put i ho.sm one) (ho.ss.put r)
/-- o.f = v by values -/
theorem g_fd {f : Str} {o : Expr} {fo : FE} (h : EF X W o fo) : GF X W (.Attribute o f pos) (gFd X.K f fo) := by
  refine ⟨fun pins s σ H v u Q I r ⟨ρ, μ, δ, p, C, E, ho, rp, one, c, hC, hX⟩ => ?_⟩
  rw [PySem.assign_Attribute]
  let Q1 : VK := fun y H1 => ∃ a cc dx vs, y = .ref a ∧ H1 a = some (.ins cc dx vs) ∧ Cls X.K cc ∧ NoAttr X.K cc f ∧ vs.length < 1000 ∧ Q σ (upd H1 a (.ins cc dx (putF f v vs)))
  have one' : ∀ x, footP p x + (footS δ x + footM ρ μ x) ≤ 1 := one
  have kind : ∀ x, 1 ≤ footP p x + footS δ x → ∃ o, H x = some o := fun x q => by
    by_cases z : 1 ≤ footP p x
    · obtain ⟨xs, e⟩ := rp.foot z
      exact ⟨_, e⟩
    · obtain ⟨xs, e⟩ := ho.ss.foot (x := x) (by omega)
      exact ⟨_, e⟩
  have s1 : liftE X.K W fo σ H Q1 := by
    refine ⟨ρ, μ, δ, _, _, ho, c, fun q μ1 c1 ρ1 H1 v1 e1 r1 => ?_, fun x μ' c2 ρ' H' cls d e2 r2 => ?_⟩
    · split at c1
      · rename_i n
        split at c1
        · rename_i cc fs q
          obtain ⟨⟨⟨k1, k2⟩, k3⟩, mv⟩ := c1
          simp only [PR, Rep] at r1
          obtain ⟨a, rfl, h2⟩ := r1
          obtain ⟨b, h3, dx, vs, h4, h5⟩ := e1.sm.obj n _ q
          rw [h2] at h3
          cases h3
          refine ⟨a, cc, dx, vs, rfl, h4, k1, k2, by rw [← fsR_len h5]; exact k3, ?_⟩
          have e1' := e1.drop
          -- what waits is as it was
          have st := e1'.stayM ho.sm
          have keepF : ∀ x o, 1 ≤ footP p x + footS δ x → H x = some o → H1 x = some o := fun x o q z => e1'.keep x o z (by have := one' x; omega)
          have ap1 : ∀ x, footP p x + footS δ x + footM ρ1 μ1 x ≤ 1 := fun x => by
            have f := e1'.frame (R := fun y => footP p y + footS δ y) kind (fun y => by have := one' y; omega)
            have := f.one x
            have z : F0 x = 0 := rfl
            omega
          have tot : Evo X.K (footP1 p ρ μ δ) ρ H ρ1 μ1 H1 (fun x => footP p x + footS δ x) := by
            have f := e1'.frame (R := fun y => footP p y + footS δ y) kind (fun y => by have := one' y; omega)
            refine ⟨f.sm, f.ext, fun x o q z => f.keep x o q ?_, fun x q => ?_, fun x => by have := ap1 x; omega⟩
            · have z' : footP p x + (footS δ x + footM ρ μ x) = 0 := z
              show footP p x + footS δ x + footM ρ μ x = 0
              omega
            · rcases f.grow x (by show 1 ≤ F0 x + (footP p x + footS δ x) + footM ρ1 μ1 x; omega) with t | t
              · refine .inl ?_
                have t' : 1 ≤ footP p x + footS δ x + footM ρ μ x := t
                show 1 ≤ footP p x + (footS δ x + footM ρ μ x)
                omega
              · exact .inr t
          have ss1 := ho.ss.stay st e1'.ext fun x o q z => keepF x o (by omega) z
          -- the store's step, for what is stored p' and the slots δ' that stay
          have fin : ∀ (p' : P) (δ' : Sl), PR X.K ρ1 H1 p' v → SS X.K ρ1 H1 δ' σ → (∀ x, footP p' x + footS δ' x ≤ footP p x + footS δ x) → C δ' (μ1.set n (.ins cc (putP f p' fs))) → Q σ (upd H1 a (.ins cc dx (putF f v vs))) := by
            intro p' δ' rp' ss' le c3
            have one3 : ∀ x, footP p' x + footM ρ1 μ1 x ≤ 1 := fun x => by have := ap1 x; have := le x; omega
            have e3 : Evo X.K (fun x => footP p' x + footM ρ1 μ1 x) ρ1 H1 ρ1 (μ1.set n (.ins cc (putP f p' fs))) (upd H1 a (.ins cc dx (putF f v vs))) F0 := by
              refine Evo.set e1.sm one3 h2 q (fun x => ?_) fun st3 ko => ⟨dx, putF f v vs, upd_same, ?_⟩
              · have := footF_put f p' x fs
                have z : F0 x = 0 := rfl
                simp only [footO]
                omega
              · exact fsR_put (rp'.stay st3 (Ext.refl _) fun x o q z => ko x o (by omega) z) (h5.stay st3 (Ext.refl _) _ _ fun x o q z => ko x o (by simp only [footO]; omega) z)
            have kind1 : ∀ x, 1 ≤ footS δ' x → ∃ o, H1 x = some o := fun x q => let ⟨xs, e⟩ := ss'.foot q; ⟨_, e⟩
            have e4 := e3.frame (R := footS δ') kind1 fun x => by have := ap1 x; have := le x; omega
            have st4 : Stay H1 (upd H1 a (.ins cc dx (putF f v vs))) := e3.stay fun x q => by
              by_cases z : 1 ≤ footM ρ1 μ1 x
              · exact e1.sm.foot z
              · have q' : 1 ≤ footP p' x + footM ρ1 μ1 x := q
                obtain ⟨xs, e⟩ := rp'.foot (x := x) (by omega)
                exact ⟨_, e, fun w => w⟩
            refine hC δ' _ c3 ρ1 σ _ (tot.trans (e4.less fun x => by omega) fun x q => ?_) ?_
            · have q' : 1 ≤ footS δ' x + (footP p' x + footM ρ1 μ1 x) := q
              have := le x
              omega
            · exact ss'.stay st4 (Ext.refl _) fun x o q z => e4.keep x o z |> fun _ => e3.keep x o z (by show footP p' x + footM ρ1 μ1 x = 0; have := ap1 x; have := le x; omega)
          have rp1 : PR X.K ρ1 H1 p v := rp.stay st e1'.ext fun x o q z => keepF x o (by omega) z
          cases p with
          | val d => exact fin _ δ rp1 ss1 (fun x => Nat.le_refl _) mv
          | own a ds => exact fin _ δ rp1 ss1 (fun x => Nat.le_refl _) mv
          | bor a pl =>
            cases pl with
            | fld m g => exact mv.elim
            | slot i =>
              simp only [moved] at mv
              split at mv
              · rename_i b ds hs
                obtain ⟨rfl, mv⟩ := mv
                obtain ⟨w, g1, g2⟩ := ss1.at_ i _ hs
                have hv : v = .ref b := rp1
                refine fin (.own b ds) _ ⟨hv, g2.2⟩ (ss1.forget i) (fun x => ?_) mv
                have := footS_set (none : Option P) x hs
                simp at this
                omega
              · exact mv.elim
        · exact c1.elim
      · exact c1.elim
    · have f := e2.frame (R := fun y => footP p y + footS δ y) kind (fun y => by have := one' y; omega)
      refine hX x δ μ' c2 ρ' σ H' cls d ⟨f.sm, f.ext, fun x o q z => f.keep x o q ?_, fun x q => ?_, fun x => by have := f.one x; have z : F0 x = 0 := rfl; omega⟩ (ho.ss.stay (e2.stayM ho.sm) e2.ext fun x o q z => e2.keep x o z (by have := one' x; omega)) r2
      · have z' : footP p x + (footS δ x + footM ρ μ x) = 0 := z
        show footP p x + footS δ x + footM ρ μ x = 0
        omega
      · rcases f.grow x (by show 1 ≤ F0 x + (footP p x + footS δ x) + footM ρ' μ' x; omega) with t | t
        · refine .inl ?_
          have t' : 1 ≤ footP p x + footS δ x + footM ρ μ x := t
          show 1 ≤ footP p x + (footS δ x + footM ρ μ x)
          omega
        · exact .inr t
  refine wpAny_bind (wpAny_holding (thn (h.run pins s σ H Q1 I s1) fun ov s1 hh => ?_))
  obtain ⟨y, H1, I1, ry, a, cc, dx, vs, rfl, h4, k1, k2, k3, q⟩ := hh
  obtain rfl : ov = Value.ref a := ry
  first
    | exact wpAny_bind (wpAny_standAt (wpAny_bind (wpAny_holding (setattr_ok I1 h4 k1 k2 k3 r fun s3 I3 => wpAny_release ⟨σ, _, I3, q⟩))))
    | exact wpAny_bind (wpAny_standAt (wpAny_bind (wpAny_holding (setattr_ok I1 h4 k1 k2 k3 r fun s3 I3 => wpAny_bind (wpAny_release ⟨σ, _, I3, q⟩)))))
end
end NT

/-! NT: lists that are changed where they stand. -/
namespace NT
open PySem PySem.Spec PyProof.Rows L2

/-- the list of a place becomes nw -/
def lput (p : P) (δ : Sl) (μ : Mu) (nw : List D) (C : Sl → Mu → Prop) : Prop := match p with
  | .bor a (.slot i) => (match δ[i]? with
    | some (some (.own b _)) => b = a ∧ C (δ.set i (some (.own b nw))) μ
    | _ => False)
  | .bor a (.fld n f) => (match μ[n]? with
    | some (.ins c fs) => (match fs.lookup f with
      | some (.own b _) => b = a ∧ C δ (μ.set n (.ins c (putP f (.own b nw) fs)))
      | _ => False)
    | _ => False)
  | .val (.ref n) => (match μ[n]? with
    | some (.lst _) => C δ (μ.set n (.lst nw))
    | _ => False)
  | _ => False
section
variable {K : PySem.W.Frag} {W : WX} {ρ ρ1 ρ2 : List Addr} {μ μ1 μ2 : Mu} {δ δ1 : Sl} {σ σ1 : L2.St} {H H1 H2 : Hp} {F : Addr → Nat} {E : CX}
theorem fsR_re {f : Str} {b : Addr} {ds nw : List D} {ys : List V} (st : Stay H H1) : ∀ {fs : List (Str × P)} {vs : List (Str × V)}, FsR K ρ H fs vs → fs.lookup f = some (.own b ds) → (∀ x, footF fs x ≤ 1) → (∀ x o, x ≠ b → H x = some o → H1 x = some o) → H1 b = some (.lst ys) → Reps K ρ H1 nw ys →
    FsR K ρ H1 (putP f (.own b nw) fs) vs ∧ ∀ x, footF (putP f (.own b nw) fs) x = footF fs x
  | [], _, _, e, _, _, _, _ => by simp at e
  | (g, q) :: fs, vs, h, e, one, ko, hb, rs => by
    obtain ⟨u, t, rfl, h2, h3⟩ := h
    rw [List.lookup_cons] at e
    have o1 := fun x => by have := one x; simp only [footF] at this; exact this
    cases hg : f == g with
    | true =>
      rw [hg] at e
      simp only [Option.some.injEq] at e
      subst e
      have eg : g = f := (eq_of_beq hg).symm
      subst eg
      simp only [putP, if_true]
      refine ⟨⟨u, t, rfl, ⟨h2.1, ys, hb, rs⟩, h3.stay st (Ext.refl ρ) _ _ fun x o z w => ko x o (fun ne => ?_) w⟩, fun x => by simp [footF, footP]⟩
      have := o1 x
      have : footP (.own b ds) x = 1 := by simp [footP, ne]
      omega
    | false =>
      rw [hg] at e
      have eg : ¬ g = f := fun z => by subst z; simp at hg
      obtain ⟨h4, h5⟩ := fsR_re st h3 e (fun x => by have := o1 x; omega) ko hb rs
      have fb : 1 ≤ footF fs b := by
        have : ∀ (l : List (Str × P)), l.lookup f = some (.own b ds) → 1 ≤ footF l b := fun l => by
          induction l with
          | nil => intro z; simp at z
          | cons y l ih =>
            intro z
            obtain ⟨k, w⟩ := y
            rw [List.lookup_cons] at z
            cases hk : f == k with
            | true => rw [hk] at z; simp only [Option.some.injEq] at z; subst z; simp [footF, footP]
            | false => rw [hk] at z; have := ih z; simp only [footF]; omega
        exact this fs e
      simp only [putP, if_neg eg]
      refine ⟨⟨u, _, rfl, h2.stay st (Ext.refl ρ) fun x o z w => ko x o (fun ne => ?_) w, h4⟩, fun x => by simp only [footF, h5]⟩
      have := o1 x
      rw [ne] at z this
      omega
theorem lput_ok {p : P} {x : V} {nw : List D} {C : Sl → Mu → Prop} (ho : Hold K ρ μ δ σ H) (r : PR K ρ H p x) (c : lput p δ μ nw C) :
    ∃ a xs ds δ' μ', x = .ref a ∧ H a = some (.lst xs) ∧ lget δ μ p = some ds ∧ Reps K ρ H ds xs ∧ C δ' μ' ∧ ∀ ys, Reps K ρ H nw ys → Evo K (footB ρ μ δ) ρ H ρ μ' (upd H a (.lst ys)) (footS δ') ∧ SS K ρ (upd H a (.lst ys)) δ' σ := by
  have stOf : ∀ {a : Addr} {xs ys : List V}, H a = some (.lst xs) → Stay H (upd H a (.lst ys)) := fun {a xs ys} e b u q f => by
    rw [upd_ne]
    · exact q
    · intro z
      rw [z, e] at q
      cases q
      exact f
  cases p with
  | val d =>
    cases d with
    | ref n =>
      simp only [lput] at c
      split at c
      · rename_i ds q
        simp only [PR, Rep] at r
        obtain ⟨a, rfl, h2⟩ := r
        obtain ⟨b, h3, xs, h4, h5⟩ := ho.sm.obj n _ q
        rw [h2] at h3
        cases h3
        refine ⟨a, xs, ds, δ, _, rfl, h4, by simp only [lget, q], h5, c, fun ys ry => ?_⟩
        have e := Evo.set (o' := .lst nw) (u := .lst ys) (Fi := F0) (Fo := F0) ho.sm (fun x => by have := ho.le x; have z : F0 x = 0 := rfl; omega) h2 q (fun x => Nat.le_refl _) fun st ko => ⟨ys, upd_same, ry.stay st (Ext.refl ρ)⟩
        have e' : Evo K (footM ρ μ) ρ H ρ (μ.set n (.lst nw)) (upd H a (.lst ys)) F0 := ⟨e.sm, e.ext, fun b o q z => e.keep b o q (by show F0 b + footM ρ μ b = 0; rw [z]), fun b q => by
          rcases e.grow b q with t | t
          · exact .inl (by have t' : 1 ≤ F0 b + footM ρ μ b := t; have z : F0 b = 0 := rfl; omega)
          · exact .inr t, e.one⟩
        exact ⟨(ho.evoB e').less fun x => by omega, (ho.after e').ss⟩
      · exact c.elim
    | _ => exact c.elim
  | own a ds => exact c.elim
  | bor a pl =>
    have r' : x = .ref a := r
    cases pl with
    | slot i =>
      simp only [lput] at c
      split at c
      · rename_i b ds q
        obtain ⟨rfl, c⟩ := c
        obtain ⟨v, h1, hv, xs, h2, h3⟩ := ho.ss.at_ i _ q
        refine ⟨b, xs, ds, _, μ, r', h2, by simp only [lget, q, if_true], h3, c, fun ys ry => ?_⟩
        have st := stOf (ys := ys) h2
        have fb := footS_at b q
        have fb' : footP (.own b ds) b = 1 := by simp [footP]
        have o1 := ho.one b
        have fs : ∀ x, footS (δ.set i (some (.own b nw))) x = footS δ x := fun x => by
          have := footS_set (some (.own b nw)) x q
          simp [footP] at this
          omega
        have ne : ∀ c, footS δ c + footM ρ μ c = 0 → upd H b (.lst ys) c = H c := fun c z => upd_ne fun w => by rw [w] at z; omega
        refine ⟨⟨ho.sm.stay st fun c o z w => by rw [upd_ne (fun t => by rw [t] at z; omega)]; exact w, Ext.refl ρ, fun c o z w => by rw [ne c w]; exact z, fun c z => .inl (by rw [fs] at z; exact z), fun c => by rw [fs]; exact ho.one c⟩, ?_⟩
        refine ⟨by simp [ho.ss.len], fun j w e => ?_⟩
        by_cases hj : i = j
        · subst hj
          rw [List.getElem?_set_self (List.getElem?_eq_some_iff.mp q).1] at e
          cases e
          exact ⟨v, h1, hv, ys, upd_same, ry.stay st (Ext.refl ρ)⟩
        · rw [List.getElem?_set_ne hj] at e
          obtain ⟨u, g1, g2⟩ := ho.ss.at_ j w e
          refine ⟨u, g1, g2.stay st (Ext.refl ρ) fun c o z t => ?_⟩
          rw [upd_ne]
          · exact t
          · intro w2
            have := footS_set (none : Option P) b q
            simp at this
            have h6 : (δ.set i none)[j]? = some (some w) := by rw [List.getElem?_set_ne hj]; exact e
            have := footS_at b h6
            rw [w2] at z
            omega
      · exact c.elim
    | fld n f =>
      simp only [lput] at c
      split at c
      · rename_i cc fs q
        split at c
        · rename_i b ds q2
          obtain ⟨rfl, c⟩ := c
          obtain ⟨a, hρ, dx, vs, h4, h5⟩ := ho.sm.obj n _ q
          obtain ⟨v, h6, hv, xs, h7, h8⟩ := fs_lookup h5 q2
          refine ⟨b, xs, ds, δ, _, r', h7, by simp only [lget, q, q2, if_true], h8, c, fun ys ry => ?_⟩
          have st := stOf (ys := ys) h7
          have am := footM_at (x := b) hρ q
          have fF : 1 ≤ footF fs b := by
            have : ∀ (l : List (Str × P)), l.lookup f = some (.own b ds) → 1 ≤ footF l b := fun l => by
              induction l with
              | nil => intro z; simp at z
              | cons y l ih =>
                intro z
                obtain ⟨k, w⟩ := y
                rw [List.lookup_cons] at z
                cases hk : f == k with
                | true => rw [hk] at z; simp only [Option.some.injEq] at z; subst z; simp [footF, footP]
                | false => rw [hk] at z; have := ih z; simp only [footF]; omega
            exact this fs q2
          have o1 := ho.one b
          have nab : a ≠ b := fun z => by
            rw [z] at am
            simp [footO] at am
            omega
          have fm := fun x => footM_set ρ μ n _ (.ins cc (putP f (.own b nw) fs)) x ho.sm.len q
          have ff : ∀ x, footF fs x ≤ 1 := fun x => by
            have := footM_at (x := x) hρ q
            have := ho.one x
            simp only [footO] at *
            omega
          obtain ⟨k1, k2⟩ := fsR_re (ρ := ρ) (nw := nw) (ys := ys) st h5 q2 ff (fun x o ne w => by rw [upd_ne ne]; exact w) upd_same (ry.stay st (Ext.refl ρ))
          have fe : ∀ x, footM ρ (μ.set n (.ins cc (putP f (.own b nw) fs))) x = footM ρ μ x := fun x => by
            have := fm x
            simp only [footO, k2] at this
            omega
          have am' : 1 ≤ footM ρ μ b := by simp only [footO] at am; omega
          have e' : Evo K (footM ρ μ) ρ H ρ (μ.set n (.ins cc (putP f (.own b nw) fs))) (upd H b (.lst ys)) F0 := by
            refine ⟨⟨by rw [List.length_set]; exact ho.sm.len, fun m w e => ?_⟩, Ext.refl ρ, fun y o z w => ?_, fun y z => .inl ?_, fun y => ?_⟩
            · by_cases hm : m = n
              · subst hm
                rw [List.getElem?_set_self (List.getElem?_eq_some_iff.mp q).1] at e
                cases e
                exact ⟨a, hρ, dx, vs, by rw [upd_ne nab]; exact h4, k1⟩
              · rw [List.getElem?_set_ne (Ne.symm hm)] at e
                obtain ⟨y, e1, e2⟩ := ho.sm.obj m w e
                refine ⟨y, e1, e2.stay st (Ext.refl ρ) fun z u z1 z2 => ?_⟩
                rw [upd_ne]
                · exact z2
                · intro t
                  subst t
                  have := footM_two z (Ne.symm hm) hρ q e1 e
                  have := ho.one z
                  simp only [footO] at *
                  rcases z1 with z1 | z1
                  · rw [if_pos z1] at *
                    omega
                  · omega
            · rw [upd_ne (fun t => by rw [t] at w; omega)]
              exact z
            · rw [fe] at z
              have t : F0 y = 0 := rfl
              omega
            · rw [fe]
              have := ho.le y
              have t : F0 y = 0 := rfl
              omega
          exact ⟨(ho.evoB e').less fun x => by omega, (ho.after e').ss⟩
        · exact c.elim
      · exact c.elim
end
end NT

/-! NT: items stored, tuples taken apart, assignments, op=, blocks, if, return, append. -/
namespace NT
open PySem PySem.Spec PyProof.Rows L2

section
variable {K : PySem.W.Frag} {W : WX} {ρ ρ1 ρ2 : List Addr} {μ μ1 μ2 : Mu} {δ δ1 : Sl} {σ σ1 : L2.St} {H H1 H2 : Hp} {F G B : Addr → Nat} {E : CX}
/-- a result waits through a further step: both are held -/
theorem Evo.waitF (a : Evo K B ρ H ρ1 μ1 H1 F) (b : Evo K (footM ρ1 μ1) ρ1 H1 ρ2 μ2 H2 G) (k : ∀ x, 1 ≤ F x → ∃ o, H1 x = some o) : Evo K B ρ H ρ2 μ2 H2 (fun x => F x + G x) := by
  have t := a.transM b
  have f := b.frame (R := F) k fun x => a.one x
  refine ⟨t.sm, t.ext, t.keep, fun x q => ?_, fun x => by have := f.one x; omega⟩
  by_cases w : 1 ≤ F x
  · exact a.grow x (by omega)
  · exact t.grow x (by omega)
theorem PRs.foot : ∀ {ps : List P} {vs : List V} {x : Addr}, PRs K ρ H ps vs → 1 ≤ footL ps x → ∃ xs, H x = some (.lst xs)
  | [], _, _, _, q => by simp [footL] at q
  | p :: r, _, x, h, q => by
    obtain ⟨v, t, rfl, h2, h3⟩ := h
    simp only [footL] at q
    by_cases z : 1 ≤ footP p x
    · exact h2.foot z
    · exact PRs.foot h3 (by omega)
theorem PRs.stay (k : Stay H H1) (e : Ext ρ ρ1) : ∀ {ps : List P} {vs : List V}, (∀ a o, 1 ≤ footL ps a → H a = some o → H1 a = some o) → PRs K ρ H ps vs → PRs K ρ1 H1 ps vs
  | [], _, _, h => h
  | p :: r, _, ko, h => by
    obtain ⟨v, t, rfl, h2, h3⟩ := h
    exact ⟨v, t, rfl, h2.stay k e fun a o z => ko a o (by simp only [footL]; omega), PRs.stay k e (fun a o z => ko a o (by simp only [footL]; omega)) h3⟩
theorem PRs.len : ∀ {ps : List P} {vs : List V}, PRs K ρ H ps vs → ps.length = vs.length
  | [], _, h => by have h' : _ = [] := h; subst h'; rfl
  | p :: r, _, h => by
    obtain ⟨v, t, rfl, _, h3⟩ := h
    simp [PRs.len h3]
theorem prs_vals : ∀ {ds : List D} {vs : List V}, Reps K ρ H ds vs → PRs K ρ H (ds.map P.val) vs
  | [], _, h => by simp only [Reps] at h; exact h
  | d :: ds, _, h => by
    simp only [Reps] at h
    obtain ⟨v, r, rfl, h2, h3⟩ := h
    exact ⟨v, r, rfl, h2, prs_vals h3⟩
theorem footL_vals (ds : List D) (x : Addr) : footL (ds.map P.val) x = 0 := by
  induction ds with
  | nil => rfl
  | cons d r ih => simp only [List.map_cons, footL, footP, ih]
end
/-! ### xs[i] = v -/
def gIx (fo fi : FE) : FG := fun p δ μ C E => match p with
  | .val d => fo δ μ (fun q μ1 => fi δ μ1 (fun r μ2 => match r with
    | .val (.int k) => (match lget δ μ2 q with
      | some ds => (match ixN ds.length k with
        | some j => lput q δ μ2 (ds.set j d) C
        | none => False)
      | none => False)
    | _ => False) (fun x μ' => E x δ μ')) (fun x μ' => E x δ μ')
  | _ => False
theorem g_ix {X : Cx} {W : WX} {pos : Pos} {o i : Expr} {fo fi : FE} (ho : EF X W o fo) (hi : EF X W i fi) (ha : ∀ v, assign (.Subscript o i pos) X.env v = (do
      let ov ← holding [v] (eval o X.env)
      let iv ← holding [v, ov] (eval i X.env)
      standAt pos
      holding [v, ov, iv] (setItem ov iv v)
      release [v, ov, iv] []) := by intro _; rfl) : GF X W (.Subscript o i pos) (gIx fo fi) := by
  refine pg_imp (pg_sub ho hi set_list ha) fun v σ H Q ⟨ρ, μ, δ, p, C, E, hh, rp, one, c, hC, hX⟩ => ?_
  cases p with
  | val d =>
    have b0 : ∀ {ρ' : List Addr} {μ' : Mu} {H' : Hp} {F : Addr → Nat}, Evo X.K (footB ρ μ δ) ρ H ρ' μ' H' F → Evo X.K (footP1 (.val d) ρ μ δ) ρ H ρ' μ' H' F := fun {ρ' μ' H' F} e => by
      have z : footP1 (.val d) ρ μ δ = footB ρ μ δ := by funext x; show footP (.val d) x + _ = _; simp [footP]
      rw [z]
      exact e
    have xo : XOut X.K W ρ μ σ H (fun x μ' => E x δ μ') := fun x μ' q ρ' H' cls d e r => hX x δ μ' q ρ' σ H' cls d (b0 ((hh.evoB e).less fun y => by omega)) (hh.after e).ss r
    refine ⟨ρ, μ, δ, _, _, hh, c, fun q μ1 c1 ρ1 H1 v1 e1 r1 => ?_, xo⟩
    refine ⟨ρ1, μ1, δ, _, _, hh.after e1, c1, fun r μ2 c2 ρ2 H2 v2 e2 r2 => ?_, xo.after e1⟩
    obtain ⟨r1', _⟩ := e1.wait r1 e2
    have h2 := (hh.after e1).after e2
    have e12 := e1.drop.transM e2
    split at c2
    · split at c2
      · rename_i k ds hl
        split at c2
        · rename_i j hj
          obtain ⟨a, xs, ds', δ', μ', rfl, ha', hl', rs, c3, step⟩ := lput_ok h2 r1' c2
          rw [hl] at hl'
          cases hl'
          have rd : Rep X.K ρ2 H2 d v := Rep.stay (e12.stayM hh.sm) e12.ext d v rp
          obtain ⟨ev, ss⟩ := step (xs.set j v) (reps_set j rs rd)
          refine ⟨a, xs, _, j, rfl, pr_int r2, ha', by rw [← reps_len rs]; exact hj, ?_⟩
          exact hC δ' μ' c3 ρ2 σ _ (b0 (((hh.evoB e12).less (G := footS δ) fun y => by omega).transS ev)) ss
        · exact c2.elim
      · exact c2.elim
    · exact c2.elim
  | own a ds => exact c.elim
  | bor a pl => exact c.elim
/-! ### several targets, tuples taken apart -/
def liftGs (K : PySem.W.Frag) (W : WX) (g : FGs) : TGs := fun vs σ H Q => ∃ ρ μ δ ps C E, Hold K ρ μ δ σ H ∧ PRs K ρ H ps vs ∧ (∀ x, footL1 ps ρ μ δ x ≤ 1) ∧ g ps δ μ C E ∧
  (∀ δ' μ', C δ' μ' → ∀ ρ' σ' H', Evo K (footL1 ps ρ μ δ) ρ H ρ' μ' H' (footS δ') → SS K ρ' H' δ' σ' → Q σ' H') ∧ XOutS K W (footL1 ps ρ μ δ) ρ H E
def GsF (X : Cx) (W : WX) (es : List Expr) (g : FGs) : Prop := PGs X es (liftGs X.K W g)
def gsNil : FGs := fun ps δ μ C _ => ps = [] ∧ C δ μ
def gsCons (g : FG) (r : FGs) : FGs := fun ps δ μ C E => match ps with
  | p :: t => g p δ μ (fun δ' μ' => r t δ' μ' C E) E
  | [] => False
theorem pgs_imp {X : Cx} {e : List Expr} {t t' : TGs} (h : PGs X e t) (i : ∀ v σ H Q, t' v σ H Q → t v σ H Q) : PGs X e t' := ⟨fun pins s σ H v u Q I r q => h.run pins s σ H v u Q I r (i v σ H Q q)⟩
theorem gs_nil {X : Cx} {W : WX} : GsF X W [] gsNil := pgs_imp pgs_nil fun vs σ H Q ⟨ρ, μ, δ, ps, C, E, ho, r, one, c, hC, hX⟩ => by
  obtain ⟨rfl, c⟩ := c
  have r' : vs = [] := r
  refine ⟨r', hC δ μ c ρ σ H ?_ ho.ss⟩
  have z : footL1 [] ρ μ δ = footB ρ μ δ := by funext x; show footL [] x + _ = _; simp [footL]
  rw [z]
  exact ho.reflS
theorem gs_cons {X : Cx} {W : WX} {e : Expr} {es : List Expr} {g : FG} {r : FGs} (h1 : GF X W e g) (h2 : GsF X W es r)
    (hs : (assignEach (e :: es) X.env).map (·.2) = assign e X.env :: (assignEach es X.env).map (·.2) := by rfl) : GsF X W (e :: es) (gsCons g r) := by
  refine pgs_imp (pgs_cons h1 h2 hs) fun vs σ H Q ⟨ρ, μ, δ, ps, C, E, ho, rp, one, c, hC, hX⟩ => ?_
  cases ps with
  | nil => exact c.elim
  | cons p t =>
    obtain ⟨v, ws, rfl, r1, r2⟩ := rp
    have one' : ∀ x, footP p x + footL t x + (footS δ x + footM ρ μ x) ≤ 1 := one
    have kind : ∀ x, 1 ≤ footL t x → ∃ o, H x = some o := fun x q => let ⟨xs, e⟩ := r2.foot q; ⟨_, e⟩
    have kb : ∀ x, 1 ≤ footP1 p ρ μ δ x → ∃ o, H x = some o ∧ ¬ Fixed o := fun x q => by
      by_cases z : 1 ≤ footP p x
      · obtain ⟨xs, e⟩ := r1.foot z
        exact ⟨_, e, fun w => w⟩
      · have q' : 1 ≤ footP p x + (footS δ x + footM ρ μ x) := q
        exact ho.foot (show 1 ≤ footS δ x + footM ρ μ x by omega)
    have up : ∀ {ρ' : List Addr} {μ' : Mu} {H' : Hp} {F : Addr → Nat}, Evo X.K (footP1 p ρ μ δ) ρ H ρ' μ' H' F → Evo X.K (footL1 (p :: t) ρ μ δ) ρ H ρ' μ' H' (fun x => F x + footL t x) := fun {ρ' μ' H' F} e => by
      have f := e.frame (R := footL t) kind fun x => by have := one' x; show footL t x + (footP p x + (footS δ x + footM ρ μ x)) ≤ 1; omega
      have z : footL1 (p :: t) ρ μ δ = fun x => footL t x + footP1 p ρ μ δ x := by
        funext x
        show footP p x + footL t x + (footS δ x + footM ρ μ x) = footL t x + (footP p x + (footS δ x + footM ρ μ x))
        omega
      rw [z]
      exact f
    refine ⟨v, ws, rfl, ρ, μ, δ, p, _, E, ho, r1, fun x => by have := one' x; show footP p x + (footS δ x + footM ρ μ x) ≤ 1; omega, c, fun δ1 μ1 c1 ρ1 σ1 H1 e1 s1 => ?_, fun x δ' μ' q ρ' σ' H' cls d e2 s2 r3 => hX x δ' μ' q ρ' σ' H' cls d ((up e2).less fun y => by omega) s2 r3⟩
    have e1' := up e1
    have ho1 : Hold X.K ρ1 μ1 δ1 σ1 H1 := Hold.mk' e1 s1
    have rt : PRs X.K ρ1 H1 t ws := r2.stay (e1.stay kb) e1.ext fun a o z w => e1.keep a o w (by show footP p a + (footS δ a + footM ρ μ a) = 0; have := one' a; omega)
    have base : ∀ x, 1 ≤ footL1 t ρ1 μ1 δ1 x → 1 ≤ (footS δ1 x + footL t x) + footM ρ1 μ1 x := fun x q => by
      have q' : 1 ≤ footL t x + (footS δ1 x + footM ρ1 μ1 x) := q
      omega
    refine ⟨ρ1, μ1, δ1, t, C, E, ho1, rt, fun x => by have := e1'.one x; show footL t x + (footS δ1 x + footM ρ1 μ1 x) ≤ 1; omega, c1, fun δ' μ' c2 ρ' σ' H' e2 s2 => hC δ' μ' c2 ρ' σ' H' (e1'.trans e2 base) s2, fun x δ' μ' q ρ' σ' H' cls d e2 s2 r3 => hX x δ' μ' q ρ' σ' H' cls d (e1'.trans e2 base) s2 r3⟩
/-- a tuple's parts to targets -/
def gTp (n : Nat) (gs : FGs) : FG := fun p δ μ C E => match p with
  | .val (.tup ds) => ds.length = n ∧ gs (ds.map P.val) δ μ C E
  | _ => False
theorem g_tp {X : Cx} {W : WX} {pos : Pos} {es : List Expr} {k n : Nat} {gs : FGs} (hc : X.calm = true) (h : GsF X W es gs) (hn : (assignEach es X.env).length = n := by rfl) (hst : (assignEach es X.env).findIdx? (·.1) = none := by rfl) : GF X W (.Tuple es k pos) (gTp n gs) :=
  pg_imp (pg_tup hc h hn hst) fun v σ H Q ⟨ρ, μ, δ, p, C, E, ho, rp, one, c, hC, hX⟩ => by
    unfold gTp at c
    split at c
    · rename_i ds
      obtain ⟨a, xs, rfl, e2, e3⟩ := pr_tup rp
      have z : footL1 (ds.map P.val) ρ μ δ = footP1 (.val (.tup ds)) ρ μ δ := by
        funext x
        show footL (ds.map P.val) x + _ = footP (.val (.tup ds)) x + _
        rw [footL_vals]
        simp [footP]
      exact ⟨a, xs, rfl, e2.seq, by rw [← reps_len e3]; exact c.1, ρ, μ, δ, _, C, E, ho, prs_vals e3, by rw [z]; exact one, c.2, by rw [z]; exact hC, by rw [z]; exact hX⟩
    · exact c.elim
/-! ### rows with lists that stand alone -/
abbrev FL := Sl → Mu → (List P → Mu → Prop) → CX → Prop
def liftL (K : PySem.W.Frag) (W : WX) (f : FL) : TA := fun σ H Q => ∃ ρ μ δ C E, Hold K ρ μ δ σ H ∧ f δ μ C E ∧ (∀ ps μ', C ps μ' → ∀ ρ' H' vs, Evo K (footM ρ μ) ρ H ρ' μ' H' (footL ps) → PRs K ρ' H' ps vs → Q vs H') ∧ XOut K W ρ μ σ H E
def LF (X : Cx) (W : WX) (es : List Expr) (f : FL) : Prop := PA X es (liftL X.K W f)
def lNil : FL := fun _ μ C _ => C [] μ
def lCons (f : FE) (r : FL) : FL := fun δ μ C E => f δ μ (fun p μ1 => r δ μ1 (fun ps μ2 => C (p :: ps) μ2) E) E
theorem l_nil {X : Cx} {W : WX} : LF X W [] lNil := pa_imp pa_nil fun σ H Q ⟨ρ, μ, δ, C, E, ho, c, hC, hX⟩ => hC _ μ c ρ H [] (ho.refl.less fun x => by simp [footL]) rfl
theorem l_cons {X : Cx} {W : WX} {e : Expr} {es : List Expr} {f : FE} {r : FL} (ha : EF X W e f) (hr : LF X W es r) (hs : starEach (e :: es) X.env = (false, eval e X.env) :: starEach es X.env := by rfl) : LF X W (e :: es) (lCons f r) :=
  pa_imp (pa_cons ha hr hs) fun σ H Q ⟨ρ, μ, δ, C, E, ho, c, hC, hX⟩ =>
  ⟨ρ, μ, δ, _, E, ho, c, fun p μ1 c1 ρ1 H1 v1 e1 r1 => by
    refine ⟨ρ1, μ1, δ, _, E, ho.after e1, c1, fun ps μ2 c2 ρ2 H2 vs e2 r2 => ?_, hX.after e1⟩
    obtain ⟨r1', _⟩ := e1.wait r1 e2
    exact hC _ μ2 c2 ρ2 H2 _ (e1.waitF e2 fun x q => let ⟨xs, e⟩ := r1.foot q; ⟨_, e⟩) ⟨v1, vs, rfl, r1', r2⟩, hX⟩
/-- the lists of slots among them are moved -/
def mvL : List P → Sl → (List P → Sl → Prop) → Prop
  | [], δ, C => C [] δ
  | p :: r, δ, C => moved δ (fun p' δ' => mvL r δ' fun r' δ2 => C (p' :: r') δ2) p
theorem moved_ok {K : PySem.W.Frag} {ρ : List Addr} {H : Hp} {δ : Sl} {σ : L2.St} {p : P} {v : V} {C : P → Sl → Prop} (ss : SS K ρ H δ σ) (r : PR K ρ H p v) (c : moved δ C p) :
    ∃ p' δ', PR K ρ H p' v ∧ SS K ρ H δ' σ ∧ (∀ x, footP p' x + footS δ' x ≤ footP p x + footS δ x) ∧ C p' δ' := by
  cases p with
  | val d => exact ⟨_, δ, r, ss, fun x => Nat.le_refl _, c⟩
  | own a ds => exact ⟨_, δ, r, ss, fun x => Nat.le_refl _, c⟩
  | bor a pl =>
    cases pl with
    | fld n f => exact c.elim
    | slot i =>
      simp only [moved] at c
      split at c
      · rename_i b ds q
        obtain ⟨rfl, c⟩ := c
        obtain ⟨w, g1, g2⟩ := ss.at_ i _ q
        have hv : v = .ref b := r
        refine ⟨.own b ds, _, ⟨hv, g2.2⟩, ss.forget i, fun x => ?_, c⟩
        have := footS_set (none : Option P) x q
        simp at this
        omega
      · exact c.elim
theorem mvL_ok {K : PySem.W.Frag} {ρ : List Addr} {H : Hp} : ∀ {ps : List P} {vs : List V} {δ : Sl} {σ : L2.St} {C : List P → Sl → Prop}, SS K ρ H δ σ → PRs K ρ H ps vs → mvL ps δ C →
    ∃ ps' δ', PRs K ρ H ps' vs ∧ SS K ρ H δ' σ ∧ (∀ x, footL ps' x + footS δ' x ≤ footL ps x + footS δ x) ∧ C ps' δ'
  | [], _, δ, _, _, ss, r, c => ⟨[], δ, r, ss, fun x => Nat.le_refl _, c⟩
  | p :: t, _, δ, _, _, ss, r, c => by
    obtain ⟨v, ws, rfl, r1, r2⟩ := r
    obtain ⟨p', δ1, a1, a2, a3, a4⟩ := moved_ok ss r1 c
    obtain ⟨t', δ2, b1, b2, b3, b4⟩ := mvL_ok a2 r2 a4
    refine ⟨p' :: t', δ2, ⟨v, ws, rfl, a1, b1⟩, b2, fun x => ?_, b4⟩
    have := a3 x
    have := b3 x
    simp only [footL]
    omega
/-! ### statements -/
def fNil : FS := fun D δ μ => D.nx δ μ
/-- one after the other; M may be chosen between them -/
def fCons (a b : FS) : FS := fun D δ μ => ∃ M : Sl → Mu → Prop, a { D with nx := M } δ μ ∧ ∀ δ' μ', M δ' μ' → b D δ' μ'
theorem fCons.go {a b : FS} {D : FD} {δ : Sl} {μ : Mu} (h : a { D with nx := b D } δ μ) : fCons a b D δ μ := ⟨_, h, fun _ _ h => h⟩
def fAsg (f : FE) (g : FG) : FS := fun D δ μ => f δ μ (fun p μ1 => g p δ μ1 D.nx D.ex) (fun x μ1 => D.ex x δ μ1)
def fPar (n : Nat) (l : FL) (gs : FGs) : FS := fun D δ μ => l δ μ (fun ps μ1 => (ps.length = n ∧ n ≤ sizeLine) ∧ mvL ps δ fun ps' δ' => gs ps' δ' μ1 D.nx D.ex) (fun x μ1 => D.ex x δ μ1)
def fPar2 (i j : Nat) (l : FL) : FS := fun D δ μ => l δ μ (fun ps μ1 => mvL ps δ fun ps' δ' => match ps' with | [p, q] => D.nx ((δ'.set i (some p)).set j (some q)) μ1 | _ => False) (fun x μ1 => D.ex x δ μ1)
def fPar3 (i j k : Nat) (l : FL) : FS := fun D δ μ => l δ μ (fun ps μ1 => mvL ps δ fun ps' δ' => match ps' with | [p, q, r] => D.nx (((δ'.set i (some p)).set j (some q)).set k (some r)) μ1 | _ => False) (fun x μ1 => D.ex x δ μ1)
def fIfS (t : FT) (a b : FS) : FS := fun D δ μ => t δ μ (fun k μ1 => if k = true then a D δ μ1 else b D δ μ1) (fun x μ1 => D.ex x δ μ1)
def fRet (f : FE) : FS := fun D δ μ => f δ μ (fun p μ1 => match p with
  | .bor a (.slot i) => (match δ[i]? with
    | some (some (.own b ds)) => b = a ∧ D.rt (.own b ds) μ1
    | _ => False)
  | p => D.rt p μ1) (fun x μ1 => D.ex x δ μ1)
def fRetN : FS := fun D _ μ => D.rt (.val .non) μ
def fDrop (f : FE) : FS := fun D δ μ => f δ μ (fun _ μ1 => D.nx δ μ1) (fun x μ1 => D.ex x δ μ1)
def fBreak : FS := fun D δ μ => D.bk δ μ
def fCont : FS := fun D δ μ => D.ct δ μ
def fAugN (i : Nat) (m : M2) (f : FE) : FS := fun D δ μ => match δ[i]? with
  | some (some (.val d)) => f δ μ (fun q μ1 => m (.val d) q δ μ1 fun r μ2 => D.nx (δ.set i (some r)) μ2) (fun x μ1 => D.ex x δ μ1)
  | _ => False
def fAugF (K : PySem.W.Frag) (g : Str) (m : M2) (fo f : FE) : FS := fun D δ μ => fo δ μ (fun p μ1 => match p with
  | .val (.ref n) => (match μ1[n]? with
    | some (.ins c fs) => FOk K c g ∧ (match fs.lookup g with
      | some (.val d) => f δ μ1 (fun q μ2 => m (.val d) q δ μ2 fun r μ3 => match r, μ3[n]? with
        | .val d', some (.ins c' fs') => (c' = c ∧ fs'.length < 1000) ∧ D.nx δ (μ3.set n (.ins c (putP g (.val d') fs')))
        | _, _ => False) (fun x μ2 => D.ex x δ μ2)
      | _ => False)
    | _ => False)
  | _ => False) (fun x μ1 => D.ex x δ μ1)
/-- o.append(e) -/
def fApp (fo f : FE) : FS := fun D δ μ => fo δ μ (fun p μ1 => (lgetR δ μ1 p).isSome = true ∧ f δ μ1 (fun q μ2 => asD q fun d => match lget δ μ2 p with
  | some ds => ds.length < sizeLine ∧ lput p δ μ2 (ds ++ [d]) D.nx
  | none => False) (fun x μ2 => D.ex x δ μ2)) (fun x μ1 => D.ex x δ μ1)
section
variable {X : Cx} {W : WX} {pos : Pos} {a b : FS} {st : Stmt} {rest : List Stmt} {e tg : Expr} {f : FE} {g : FG}
theorem b_nil : BF X W [] fNil := pss_imp pss_nil fun D σ H ⟨ρ, μ, δ, D', ho, c, k⟩ => k.nx δ μ c ρ σ H ho.reflS ho.ss
theorem b_cons (h1 : SF X W st a) (h2 : BF X W rest b) : BF X W (st :: rest) (fCons a b) := pss_imp (pss_cons h1 h2) fun D σ H ⟨ρ, μ, δ, D', ho, ⟨M, c1, c2⟩, k⟩ =>
  ⟨ρ, μ, δ, { D' with nx := M }, ho, c1, ⟨fun δ1 μ1 m ρ1 σ1 H1 e1 s1 => ⟨ρ1, μ1, δ1, D', Hold.mk' e1 s1, c2 δ1 μ1 m, k.after e1⟩, k.bk, k.ct, k.rt, k.ex⟩⟩
theorem b_one (h1 : SF X W st a) : BF X W [st] a := pss_imp (pss_one h1) fun D σ H h => h
theorem s_asg (he : EF X W e f) (hg : GF X W tg g) (hs : swapsWithSole [tg] e pos.line X.env = pure false := by rfl) (hw : swappedStores [tg] e X.env = pure none := by rfl)
    (h1 : (assignEach [tg] X.env).map (·.2) = [assign tg X.env] := by rfl) : SF X W (.Assign [tg] e pos) (fAsg f g) := ps_imp (ps_asg he hg hs hw h1) fun D σ H ⟨ρ, μ, δ, D', ho, c, k⟩ =>
  ⟨ρ, μ, δ, _, _, ho, c, fun p μ1 c1 ρ1 H1 v e1 r => by
    have ho1 := ho.after e1
    have eb := ho.evoB e1
    have z : (fun x => footP p x + footS δ x) = fun x => footP p x + footS δ x := rfl
    have base : ∀ x, 1 ≤ footP1 p ρ1 μ1 δ x → 1 ≤ (footP p x + footS δ x) + footM ρ1 μ1 x := fun x q => by
      have q' : 1 ≤ footP p x + (footS δ x + footM ρ1 μ1 x) := q
      omega
    exact ⟨ρ1, μ1, δ, p, _, _, ho1, r, fun x => by have := eb.one x; show footP p x + (footS δ x + footM ρ1 μ1 x) ≤ 1; omega, c1, fun δ' μ' c2 ρ' σ' H' e2 s2 => k.nx δ' μ' c2 ρ' σ' H' (eb.trans e2 base) s2,
      fun x δ' μ' q ρ' σ' H' cls d e2 s2 r2 => k.ex x δ' μ' q ρ' σ' H' cls d (eb.trans e2 base) s2 r2⟩, k.xout ho⟩
theorem s_if {c : Expr} {s1 s2 : List Stmt} {t : FT} (hc : TF X W c t) (ha : BF X W s1 a) (hb : BF X W s2 b) : SF X W (.If c s1 s2 pos) (fIfS t a b) := ps_imp (ps_if hc ha hb) fun D σ H ⟨ρ, μ, δ, D', ho, c, k⟩ =>
  ⟨ρ, μ, δ, _, _, ho, c, fun q μ1 c1 ρ1 H1 e1 => by
    cases q with
    | true => exact ⟨ρ1, μ1, δ, D', ho.after e1, c1, k.afterE ho e1⟩
    | false => exact ⟨ρ1, μ1, δ, D', ho.after e1, c1, k.afterE ho e1⟩, k.xout ho⟩
theorem s_ret (he : EF X W e f) : SF X W (.Return (some e) pos) (fRet f) := ps_imp (ps_ret he) fun D σ H ⟨ρ, μ, δ, D', ho, c, k⟩ =>
  ⟨ρ, μ, δ, _, _, ho, c, fun p μ1 c1 ρ1 H1 v e1 r => by
    have eb := ho.evoB e1
    split at c1
    · rename_i a i
      split at c1
      · rename_i b ds q
        obtain ⟨rfl, c1⟩ := c1
        have hv : v = .ref b := r
        obtain ⟨w, g1, g2⟩ := (ho.after e1).ss.at_ i _ q
        refine k.rt _ μ1 c1 ρ1 H1 v (eb.less fun x => ?_) ⟨hv, g2.2⟩
        have := footS_at x q
        omega
      · exact c1.elim
    · exact k.rt p μ1 c1 ρ1 H1 v (eb.less fun x => by omega) r, k.xout ho⟩
theorem s_retN : SF X W (.Return none pos) fRetN := ps_imp ps_retN fun D σ H ⟨ρ, μ, δ, D', ho, c, k⟩ => k.rt _ μ c ρ H .non (ho.reflS.less fun x => by simp [footP]) (by simp only [PR, Rep])
theorem s_drop (he : EF X W e f) (hs : swapsWith e none pos.line X.env = pure false := by rfl) : SF X W (.Expr e pos) (fDrop f) := ps_imp (ps_expr he hs) fun D σ H ⟨ρ, μ, δ, D', ho, c, k⟩ =>
  ⟨ρ, μ, δ, _, _, ho, c, fun p μ1 c1 ρ1 H1 v e1 r => k.nx δ μ1 c1 ρ1 σ H1 ((ho.evoB e1).less fun x => by omega) (ho.after e1).ss, k.xout ho⟩
theorem s_doc {x : Str} {j : Nat} {pos' : Pos} : SF X W (.Expr (.Constant (.str x) j pos) pos') fNil := ps_imp ps_doc fun D σ H ⟨ρ, μ, δ, D', ho, c, k⟩ => k.nx δ μ c ρ σ H ho.reflS ho.ss
theorem s_pass : SF X W (.Pass pos) fNil := ps_imp ps_pass fun D σ H ⟨ρ, μ, δ, D', ho, c, k⟩ => k.nx δ μ c ρ σ H ho.reflS ho.ss
theorem s_break : SF X W (.Break pos) fBreak := ps_imp ps_break fun D σ H ⟨ρ, μ, δ, D', ho, c, k⟩ => k.bk δ μ c ρ σ H ho.reflS ho.ss
theorem s_cont : SF X W (.Continue pos) fCont := ps_imp ps_continue fun D σ H ⟨ρ, μ, δ, D', ho, c, k⟩ => k.ct δ μ c ρ σ H ho.reflS ho.ss
theorem s_augN {i : Nat} {x : Str} {op : Operator} {r : R2} {m : M2} {pos' : Pos} (hN : X.N.Nodup) (hop : OpR X (inplaceOp op) r) (br : Br2 X.K r m) (he : EF X W e f) (hi : X.N[i]? = some x := by rfl) (hx : Loc X.env.scope x := by first | exact Or.inl rfl | exact Or.inr rfl)
    (hf : X.fn x = true ∨ X.env.scope.names.lookup x = some .local := by first | exact .inl rfl | exact .inr rfl | assumption) : SF X W (.AugAssign (.Name x pos') op e pos) (fAugN i m f) := ps_imp (ps_aug hN hi hx he hop hf) fun D σ H ⟨ρ, μ, δ, D', ho, c, k⟩ => by
  unfold fAugN at c
  split at c
  · rename_i d q
    obtain ⟨v, h1, h2⟩ := ho.ss.at_ i _ q
    refine ⟨v, h1, ρ, μ, δ, _, _, ho, c, fun p μ1 c1 ρ1 H1 w e1 r1 => ?_, k.xout ho⟩
    have ho1 := ho.after e1
    have rd : PR X.K ρ1 H1 (.val d) v := Rep.stay (e1.stayM ho.sm) e1.ext d v h2
    refine br ρ1 μ1 δ σ H1 _ p v w _ _ ho1 rd r1 (fun x => by have := e1.one x; have z : footP (.val d) x = 0 := rfl; omega) c1 fun p' μ' c2 ρ2 H2 z e2 r2 => ?_
    have eb := ho1.evoB e2
    refine k.nx _ μ' c2 ρ2 _ H2 (((ho.evoB e1).less (G := footS δ) fun x => by omega).transS (eb.less fun x => ?_)) ((ho1.after e2).ss.put r2)
    have := footS_le δ i p' x
    omega
  · exact c.elim
theorem s_augF {g : Str} {o : Expr} {op : Operator} {r : R2} {m : M2} {fo : FE} {tpos : Pos} (hop : OpR X (inplaceOp op) r) (br : Br2 X.K r m) (h1 : EF X W o fo) (he : EF X W e f) : SF X W (.AugAssign (.Attribute o g tpos) op e pos) (fAugF X.K g m fo f) :=
  ps_imp (ps_fldaug h1 he hop) fun D σ H ⟨ρ, μ, δ, D', ho, c, k⟩ =>
  ⟨ρ, μ, δ, _, _, ho, c, fun p μ1 c1 ρ1 H1 v e1 r1 => by
    split at c1
    · rename_i n
      split at c1
      · rename_i cc fs q
        obtain ⟨⟨k1, k2⟩, c1⟩ := c1
        split at c1
        · rename_i d hl
          simp only [PR, Rep] at r1
          obtain ⟨a, rfl, hρ⟩ := r1
          obtain ⟨b, h3, dx, vs, h4, h5⟩ := e1.sm.obj n _ q
          rw [hρ] at h3
          cases h3
          obtain ⟨w, h6, h7⟩ := fs_lookup h5 hl
          have ho1 := ho.after e1
          refine ⟨a, cc, dx, vs, w, rfl, h4, k1, k2, h6, ρ1, μ1, δ, _, _, ho1, c1, fun p2 μ2 c2 ρ2 H2 v2 e2 r2 => ?_, (k.afterE ho e1).xout ho1⟩
          have ho2 := ho1.after e2
          have rd : PR X.K ρ2 H2 (.val d) w := Rep.stay (e2.stayM ho1.sm) e2.ext d w h7
          refine br ρ2 μ2 δ σ H2 _ p2 w v2 _ _ ho2 rd r2 (fun x => by have := e2.one x; have z : footP (.val d) x = 0 := rfl; omega) c2 fun p3 μ3 c3 ρ3 H3 z e3 r3 => ?_
          split at c3
          · rename_i d' c' fs' q3
            obtain ⟨⟨rfl, k3⟩, c3⟩ := c3
            have ho3 := ho2.after e3
            obtain ⟨b', g1, dx', vs', g2, g3⟩ := e3.sm.obj n _ q3
            rw [e3.ext n a (e2.ext n a hρ)] at g1
            cases g1
            refine ⟨dx', vs', g2, by rw [← fsR_len g3]; exact k3, ?_⟩
            have st := Evo.set (o' := .ins c' (putP g (.val d') fs')) (u := .ins c' dx' (putF g z vs')) (Fi := F0) (Fo := F0) ho3.sm (fun x => by have := ho3.le x; have z : F0 x = 0 := rfl; omega) (e3.ext n a (e2.ext n a hρ)) q3 (fun x => by
              have := footF_put g (.val d') x fs'
              simp only [footO, footP] at *
              omega) fun st ko => ⟨dx', _, upd_same, fsR_put (p := .val d') (Rep.stay st (Ext.refl _) d' z r3) (g3.stay st (Ext.refl _) _ _ fun x o q w => ko x o (by simp only [footO]; omega) w)⟩
            have st' : Evo X.K (footM ρ3 μ3) ρ3 H3 ρ3 (μ3.set n (.ins c' (putP g (.val d') fs'))) (upd H3 a (.ins c' dx' (putF g z vs'))) F0 := ⟨st.sm, st.ext, fun b o q w => st.keep b o q (by show F0 b + footM ρ3 μ3 b = 0; rw [w]), fun b q => by
              rcases st.grow b q with t | t
              · exact .inl (by have t' : 1 ≤ F0 b + footM ρ3 μ3 b := t; have z : F0 b = 0 := rfl; omega)
              · exact .inr t, st.one⟩
            have all := ((e1.drop.transM e2).drop.transM e3).drop.transM st'
            exact k.nx δ _ c3 ρ3 σ _ ((ho.evoB all).less fun x => by omega) (ho.after all).ss
          · exact c3.elim
        · exact c1.elim
      · exact c1.elim
    · exact c1.elim, k.xout ho⟩
theorem s_par2 {i j : Nat} {x y : Str} {e1 e2 : Expr} {l : FL} {px py pt : Pos} {kt k2 : Nat} {pt2 : Pos} (hc : X.calm = true) (hN : X.N.Nodup) (hl : LF X W [e1, e2] l) (hi : X.N[i]? = some x := by rfl) (hj : X.N[j]? = some y := by rfl) (hij : i ≠ j := by decide)
    (hx : X.env.scope.names.lookup x = some .local := by rfl) (hy : X.env.scope.names.lookup y = some .local := by rfl) (hw : swappedStores [.Tuple [.Name x px, .Name y py] kt pt] (.Tuple [e1, e2] k2 pt2) X.env = pure (some [x, y]) := by rfl)
    (hs : swapsWithSole [.Tuple [.Name x px, .Name y py] kt pt] (.Tuple [e1, e2] k2 pt2) pos.line X.env = pure false := by rfl) : SF X W (.Assign [.Tuple [.Name x px, .Name y py] kt pt] (.Tuple [e1, e2] k2 pt2) pos) (fPar2 i j l) :=
  ps_imp (ps_par hc hN hi hj hij hx hy hl hw hs) fun D σ H ⟨ρ, μ, δ, D', ho, c, k⟩ =>
  ⟨ρ, μ, δ, _, _, ho, c, fun ps μ1 c1 ρ1 H1 vs ev r => by
    have ho1 := ho.after ev
    have eb := ho.evoB ev
    obtain ⟨ps', δ', r', ss', le, c2⟩ := mvL_ok ho1.ss r c1
    split at c2
    · rename_i p q
      obtain ⟨v, t, rfl, r1, w, t2, rfl, r2, hn⟩ := r'
      have hn' : t2 = [] := hn
      subst hn'
      refine ⟨v, w, rfl, k.nx _ μ1 c2 ρ1 _ H1 (eb.less fun x => ?_) ((ss'.put r1).put r2)⟩
      have := le x
      have := footS_le (δ'.set i (some p)) j q x
      have := footS_le δ' i p x
      simp only [footL] at *
      omega
    · exact c2.elim, k.xout ho⟩
theorem s_par3 {i j m : Nat} {x y z : Str} {e1 e2 e3 : Expr} {l : FL} {px py pz pt : Pos} {kt k2 : Nat} {pt2 : Pos} (hc : X.calm = true) (hN : X.N.Nodup) (hl : LF X W [e1, e2, e3] l) (hi : X.N[i]? = some x := by rfl) (hj : X.N[j]? = some y := by rfl) (hm : X.N[m]? = some z := by rfl) (hij : i ≠ j := by decide) (him : i ≠ m := by decide) (hjm : j ≠ m := by decide)
    (hx : X.env.scope.names.lookup x = some .local := by rfl) (hy : X.env.scope.names.lookup y = some .local := by rfl) (hz : X.env.scope.names.lookup z = some .local := by rfl)
    (hw : swappedStores [.Tuple [.Name x px, .Name y py, .Name z pz] kt pt] (.Tuple [e1, e2, e3] k2 pt2) X.env = pure (some [x, y, z]) := by rfl)
    (hs : swapsWithSole [.Tuple [.Name x px, .Name y py, .Name z pz] kt pt] (.Tuple [e1, e2, e3] k2 pt2) pos.line X.env = pure false := by rfl) : SF X W (.Assign [.Tuple [.Name x px, .Name y py, .Name z pz] kt pt] (.Tuple [e1, e2, e3] k2 pt2) pos) (fPar3 i j m l) :=
  ps_imp (ps_par3 hc hN hi hj hm hij him hjm hx hy hz hl hw hs) fun D σ H ⟨ρ, μ, δ, D', ho, c, k⟩ =>
  ⟨ρ, μ, δ, _, _, ho, c, fun ps μ1 c1 ρ1 H1 vs ev r => by
    have ho1 := ho.after ev
    have eb := ho.evoB ev
    obtain ⟨ps', δ', r', ss', le, c2⟩ := mvL_ok ho1.ss r c1
    split at c2
    · rename_i p q s
      obtain ⟨v, t, rfl, r1, w, t2, rfl, r2, u, t3, rfl, r3, hn⟩ := r'
      have hn' : t3 = [] := hn
      subst hn'
      refine ⟨v, w, u, rfl, k.nx _ μ1 c2 ρ1 _ H1 (eb.less fun x => ?_) (((ss'.put r1).put r2).put r3)⟩
      have := le x
      have := footS_le ((δ'.set i (some p)).set j (some q)) m s x
      have := footS_le (δ'.set i (some p)) j q x
      have := footS_le δ' i p x
      simp only [footL] at *
      omega
    · exact c2.elim, k.xout ho⟩
theorem s_par {n : Nat} {es ts : List Expr} {l : FL} {gs : FGs} {kt k2 : Nat} {pt pt2 : Pos} (hc : X.calm = true) (hl : LF X W es l) (hg : GsF X W ts gs) (hn : (assignEach ts X.env).length = n := by rfl) (hst : (assignEach ts X.env).findIdx? (·.1) = none := by rfl)
    (hs : swapsWithSole [.Tuple ts kt pt] (.Tuple es k2 pt2) pos.line X.env = pure false := by rfl) (hw : swappedStores [.Tuple ts kt pt] (.Tuple es k2 pt2) X.env = pure none := by rfl)
    (h1 : (assignEach [.Tuple ts kt pt] X.env).map (·.2) = [assign (.Tuple ts kt pt) X.env] := by rfl) : SF X W (.Assign [.Tuple ts kt pt] (.Tuple es k2 pt2) pos) (fPar n l gs) :=
  ps_imp (ps_asg (pe_tup hl) (pg_tup hc hg hn hst) hs hw h1) fun D σ H ⟨ρ, μ, δ, D', ho, c, k⟩ =>
  ⟨ρ, μ, δ, _, _, ho, c, fun ps μ1 c1 ρ1 H1 vs ev r => by
    obtain ⟨⟨n1, n2⟩, c1⟩ := c1
    have lv := PRs.len r
    refine ⟨by omega, fun p np => ⟨p, vs, rfl, .inl (.inl upd_same), by omega, ?_⟩⟩
    -- the tuple itself is nothing to the state
    have new : Evo X.K (footM ρ1 μ1) ρ1 H1 ρ1 μ1 (upd H1 p (.tup vs)) F0 := (Evo.new ev.sm (fun x => by have := ev.one x; omega) np).drop
    have st : Stay H1 (upd H1 p (.tup vs)) := fun b u q _ => stay_new np b u q
    have r2 : PRs X.K ρ1 (upd H1 p (.tup vs)) ps vs := r.stay st (Ext.refl _) fun b u _ q => stay_new np b u q
    have ev2 : Evo X.K (footM ρ μ) ρ H ρ1 μ1 (upd H1 p (.tup vs)) (fun x => footL ps x + F0 x) := ev.waitF new fun x q => let ⟨xs, e⟩ := r.foot q; ⟨_, e⟩
    have ev3 := ev2.less (G := footL ps) fun x => by omega
    have ho2 := ho.after ev3
    have eb := ho.evoB ev3
    obtain ⟨ps', δ', r', ss', le, c2⟩ := mvL_ok ho2.ss r2 c1
    have ho3 : Hold X.K ρ1 μ1 δ' σ (upd H1 p (.tup vs)) := ⟨ho2.sm, ss', fun x => by have := eb.one x; have := le x; omega⟩
    have base : ∀ x, 1 ≤ footL1 ps' ρ1 μ1 δ' x → 1 ≤ (footL ps x + footS δ x) + footM ρ1 μ1 x := fun x q => by
      have q' : 1 ≤ footL ps' x + (footS δ' x + footM ρ1 μ1 x) := q
      have := le x
      omega
    exact ⟨ρ1, μ1, δ', ps', _, _, ho3, r', fun x => by have := eb.one x; have := le x; show footL ps' x + (footS δ' x + footM ρ1 μ1 x) ≤ 1; omega, c2, fun δ2 μ2 c3 ρ2 σ2 H2 e3 s3 => k.nx δ2 μ2 c3 ρ2 σ2 H2 (eb.trans e3 base) s3,
      fun x δ2 μ2 q ρ2 σ2 H2 cls d e3 s3 r3 => k.ex x δ2 μ2 q ρ2 σ2 H2 cls d (eb.trans e3 base) s3 r3⟩, k.xout ho⟩
theorem s_app {o : Expr} {fo : FE} {apos cpos : Pos} (h1 : EF X W o fo) (he : EF X W e f) (hs : swapsWith (.Call (.Attribute o "append" apos) [e] [] cpos) none pos.line X.env = pure false := by rfl) (hst : starEach [e] X.env = (false, eval e X.env) :: starEach [] X.env := by rfl)
    (hbase : attributeBase o "append" X.env (eval o X.env) = eval o X.env := by rfl)
    (hfew : ((backTo cpos (starEach [e] X.env)).all (fun x => !x.1) && (backToKw cpos (keywordEach [] X.env)).all (fun x => x.1.isSome)
      && decide (([e] : List Expr).length + ([] : List Keyword).length + (if ([] : List Keyword).isEmpty then 0 else 1) < 30)) = true := by rfl)
    (hline : (apos.endLine == cpos.line) = true := by rfl) :
    SF X W (.Expr (.Call (.Attribute o "append" apos) [e] [] cpos) pos) (fApp fo f) := by
  refine ps_imp (ps_expr (pe_bm PySem.F.plainAttrs_list PySem.F.slot_list_append PySem.F.type_list_append mt_append h1 (pa_cons (e_frz he) pa_nil hst) hbase hfew hline hst rfl) hs) fun D σ H ⟨ρ, μ, δ, D', ho, c, k⟩ =>
    ⟨ρ, μ, δ, _, _, ho, c, fun p μ1 c1 ρ1 H1 v e1 r1 => ?_, k.xout ho⟩
  obtain ⟨is, c1⟩ := c1
  have ho1 := ho.after e1
  obtain ⟨ds0, hl0⟩ := Option.isSome_iff_exists.mp is
  obtain ⟨a0, xs0, rfl, rd0, _⟩ := lgetR_ok ho1 r1 hl0
  refine ⟨?_, ρ1, μ1, δ, fun (q : P) (μ2 : Mu) => ∃ d, q = .val d ∧ (match lget δ μ2 p with | some ds => ds.length < sizeLine ∧ lput p δ μ2 (ds ++ [d]) D'.nx | none => False), _, ho1, ?_, fun q μ2 c2 ρ2 H2 v2 e2 r2 => ?_, (k.afterE ho e1).xout ho1⟩
  · rcases rd0 with rd0 | ⟨o0, rd0⟩
    · exact .inl ⟨rfl, _, .inl (.inl rd0)⟩
    · exact .inl ⟨rfl, _, .inl (.inr ⟨o0, rd0⟩)⟩
  · unfold eFrz
    have m : (fun (q : P) (μ2 : Mu) => asD q fun d => ∃ d', P.val d = .val d' ∧ (match lget δ μ2 p with | some ds => ds.length < sizeLine ∧ lput p δ μ2 (ds ++ [d']) D'.nx | none => False)) = fun q μ2 => asD q fun d => (match lget δ μ2 p with | some ds => ds.length < sizeLine ∧ lput p δ μ2 (ds ++ [d]) D'.nx | none => False) := by
      funext q μ2
      cases q with
      | val d => exact propext ⟨fun ⟨d', e, h⟩ => by cases e; exact h, fun h => ⟨d, rfl, h⟩⟩
      | own a ds => exact propext ⟨fun ⟨d', e, h⟩ => by cases e; exact h, fun h => ⟨_, rfl, h⟩⟩
      | bor a pl => rfl
    rw [m]
    exact c1
  · obtain ⟨d, rfl, c2⟩ := c2
    have ho2 := ho1.after e2
    obtain ⟨r1', _⟩ := e1.wait r1 e2
    split at c2
    · rename_i ds hl
      obtain ⟨a, xs, ds', δ', μ', ea, ha, hl', rs, c3, step⟩ := lput_ok ho2 r1' c2.2
      rw [hl] at hl'
      cases hl'
      cases ea
      obtain ⟨ev, ss⟩ := step (xs ++ [v2]) (reps_app rs (reps_cons r2 reps_nil))
      refine ⟨_, xs, v2, rfl, rfl, ha, by rw [← reps_len rs]; exact c2.1, ?_⟩
      exact k.nx δ' μ' c3 ρ2 σ _ (((ho.evoB (e1.drop.transM e2)).less (G := footS δ) fun x => by omega).transS ev) ss
    · exact c2.elim
end
end NT

/-! NT: for and while by values. -/
namespace NT
open PySem PySem.Spec PyProof.Rows L2

/-- what an iterator gives, turn by turn -/
structure ItD where
  stop : Nat → Sl → Mu → Prop
  item : Nat → Sl → Mu → D → Prop
def rngD (lo : Int) (n : Nat) : ItD := ⟨fun i _ _ => n ≤ i, fun i _ _ d => i < n ∧ d = .int (lo + (i : Int))⟩
def fixD (ds : List D) : ItD := ⟨fun i _ _ => ds.length ≤ i, fun i _ _ d => ds[i]? = some d⟩
/-- a list as it stands at each turn -/
def livD (p : P) : ItD := ⟨fun i δ μ => ∃ ds, lget δ μ p = some ds ∧ ds.length ≤ i, fun i δ μ d => ∃ ds, lget δ μ p = some ds ∧ ds[i]? = some d⟩
def enuD (it : ItD) : ItD := ⟨it.stop, fun i δ μ d => ∃ x, it.item i δ μ x ∧ d = .tup [.int (i : Int), x]⟩
def zipD (a b : ItD) : ItD := ⟨fun i δ μ => a.stop i δ μ ∨ b.stop i δ μ, fun i δ μ d => ∃ x y, a.item i δ μ x ∧ b.item i δ μ y ∧ d = .tup [x, y]⟩
/-- how it stands over the hand layer, from (ρ, H) on -/
def Link (K : PySem.W.Frag) (it : ItD) (ρ : List Addr) (H : Hp) (J : It) : Prop := ∀ ρ' μ δ σ H', Ext ρ ρ' → Stay H H' → Hold K ρ' μ δ σ H' → ∀ i, (it.stop i δ μ → J.stop i H') ∧
  ∀ d, it.item i δ μ d → J.go i H' ∧ ∀ x H2, J.yld i H' x H2 → Rep K ρ' H2 d x ∧ Evo K (footM ρ' μ) ρ' H' ρ' μ H2 F0
abbrev FI := Sl → Mu → (ItD → Mu → Prop) → CX → Prop
def liftI (K : PySem.W.Frag) (W : WX) (f : FI) : TI := fun σ H R => ∃ ρ μ δ C E, Hold K ρ μ δ σ H ∧ f δ μ C E ∧ (∀ it μ', C it μ' → ∀ ρ' H' J, Evo K (footM ρ μ) ρ H ρ' μ' H' F0 → Link K it ρ' H' J → R J H') ∧ XOut K W ρ μ σ H E
def IF (X : Cx) (W : WX) (tg e : Expr) (f : FI) : Prop := PI X tg e (liftI X.K W f)
theorem pi_imp {X : Cx} {tg e : Expr} {t t' : TI} (h : PI X tg e t) (i : ∀ σ H R, t' σ H R → t σ H R) : PI X tg e t' := ⟨fun pins s σ H R I q => h.run pins s σ H R I (i σ H R q)⟩
section
variable {K : PySem.W.Frag} {ρ : List Addr} {H : Hp}
theorem link_rng (lo : Int) (n : Nat) : Link K (rngD lo n) ρ H (Itr lo n) := fun ρ' μ δ σ H' ex st ho i => ⟨fun h => h, fun d ⟨h1, h2⟩ => ⟨h1, fun x H2 ⟨e1, e2⟩ => by
  subst e1 e2 h2
  exact ⟨by simp only [Rep], ho.refl⟩⟩⟩
end
def iSeq2 (K : PySem.W.Frag) (tl : TE) : TI := fun σ H R => tl σ H fun x H1 => ∃ a, x = .ref a ∧ (((∃ xs, SqL K H1 a xs) ∧ R (Itl K a) H1) ∨ ((∃ xs, SqT K H1 a xs) ∧ R (Itt K a) H1))
theorem pi_seq2 {X : Cx} {tg l : Expr} {tl : TE} (hl : PE X l tl) : PI X tg l (iSeq2 X.K tl) := by
  refine ⟨fun pins s σ H R I h => ?_⟩
  refine thn (hl.run pins s σ H _ I h) fun v s1 hh => ?_
  obtain ⟨x, H1, I1, r1, a, rfl, q⟩ := hh
  cases r1
  have fp : ∀ b ∈ [s1.heap.objs.size], FpOk X pins H1 b := fun b hb => by
    obtain rfl : b = s1.heap.objs.size := by simpa using hb
    exact I1.fpOk (Nat.le_refl _) (I1.hok.fresh (Nat.le_refl _))
  rcases q with ⟨⟨xs, hq⟩, q⟩ | ⟨⟨xs, hq⟩, q⟩
  · obtain ⟨its, rv, p, hz⟩ := I1.list hq
    refine wpAny_pyIter_list p.isList ?_
    exact ⟨_, [s1.heap.objs.size], _, _, H1, rfl, I1.kept (t' := s1.toks) fun b o e => Heap.get?_push_of_some _ e, turn_list a _, ⟨_, Heap.get?_push_size _ rfl, rfl, rfl⟩, fp, q⟩
  · obtain ⟨its, rv, p, hz⟩ := I1.tuple hq
    refine wpAny_pyIter_tuple (show s1.heap.IsTuple a its.toArray from p) ?_
    exact ⟨_, [s1.heap.objs.size], _, _, H1, rfl, I1.kept (t' := s1.toks) fun b o e => Heap.get?_push_of_some _ e, turn_tuple a _, ⟨_, Heap.get?_push_size _ rfl, rfl, rfl⟩, fp, q⟩
section
variable {K : PySem.W.Frag} {W : WX} {ρ ρ1 ρ2 : List Addr} {μ μ1 μ2 : Mu} {δ δ1 : Sl} {σ σ1 : L2.St} {H H1 H2 : Hp} {F : Addr → Nat} {E : CX}
/-- what a live or fixed list stands for later -/
theorem PR.later {p : P} {v : V} (e : Ext ρ ρ1) (s : Stay H H1) (np : ∀ a ds, p ≠ .own a ds) (h : PR K ρ H p v) : PR K ρ1 H1 p v := h.stay s e fun a o z => by
  cases p with
  | own b ds => exact absurd rfl (np b ds)
  | val d => simp [footP] at z
  | bor b pl => simp [footP] at z
theorem reps_at {ds : List D} {vs : List V} {i : Nat} {d : D} {x : V} (h : Reps K ρ H ds vs) (e : ds[i]? = some d) (e2 : vs[i]? = some x) : Rep K ρ H d x := by
  obtain ⟨v, h1, h2⟩ := reps_get h e
  rw [e2] at h1
  cases h1
  exact h2
theorem link_liv {p : P} {a : Addr} (np : ∀ b ds, p ≠ .own b ds) (r : PR K ρ H p (.ref a)) : Link K (livD p) ρ H (Itl K a) := fun ρ' μ δ σ H' ex st ho i => by
  have r' := r.later ex st np
  refine ⟨fun ⟨ds, h1, h2⟩ => ?_, fun d ⟨ds, h1, h2⟩ => ?_⟩
  · obtain ⟨b, xs, e1, e2, e3⟩ := lget_ok ho r' h1
    cases e1
    exact ⟨xs, e2, by rw [← reps_len e3]; exact h2⟩
  · obtain ⟨b, xs, e1, e2, e3⟩ := lget_ok ho r' h1
    cases e1
    obtain ⟨v, g1, g2⟩ := reps_get e3 h2
    refine ⟨⟨xs, v, e2, g1⟩, fun x H2 ⟨q1, q2⟩ => ?_⟩
    subst q1
    exact ⟨reps_at e3 h2 (q2 xs e2), ho.refl⟩
theorem link_fixL {d : D} {ds : List D} {a : Addr} (hd : lget [] [] (.val d) = some ds) (r : Rep K ρ H d (.ref a)) : Link K (fixD ds) ρ H (Itl K a) := fun ρ' μ δ σ H' ex st ho i => by
  have hd' : lget δ μ (.val d) = some ds := by
    cases d with
    | ref n => simp [lget] at hd
    | _ => exact hd
  have z := link_liv (K := K) (p := .val d) (fun _ _ => by intro z; cases z) r ρ' μ δ σ H' ex st ho i
  exact ⟨fun h => z.1 ⟨ds, hd', h⟩, fun x h => z.2 x ⟨ds, hd', h⟩⟩
theorem link_fixT {ds : List D} {a : Addr} {xs : List V} (r1 : SqU K H a xs) (r2 : Reps K ρ H ds xs) : Link K (fixD ds) ρ H (Itt K a) := fun ρ' μ δ σ H' ex st ho i => by
  have e1 := (r1.stay st).seq
  have e2 := Reps.stay st ex ds xs r2
  refine ⟨fun h => ⟨xs, e1, by rw [← reps_len e2]; exact h⟩, fun d h => ?_⟩
  obtain ⟨v, g1, g2⟩ := reps_get e2 h
  refine ⟨⟨xs, v, e1, g1⟩, fun x H2 ⟨q1, q2⟩ => ?_⟩
  subst q1
  exact ⟨reps_at e2 h (q2 xs e1), ho.refl⟩
theorem link_enu {p : P} {a : Addr} (np : ∀ b ds, p ≠ .own b ds) (r : PR K ρ H p (.ref a)) : Link K (enuD (livD p)) ρ H (Ite K a) := fun ρ' μ δ σ H' ex st ho i => by
  have r' := r.later ex st np
  refine ⟨fun ⟨ds, h1, h2⟩ => ?_, fun d ⟨y, ⟨ds, h1, h2⟩, hd⟩ => ?_⟩
  · obtain ⟨b, xs, e1, e2, e3⟩ := lget_ok ho r' h1
    cases e1
    exact ⟨xs, e2, by rw [← reps_len e3]; exact h2⟩
  · obtain ⟨b, xs, e1, e2, e3⟩ := lget_ok ho r' h1
    cases e1
    obtain ⟨v, g1, g2⟩ := reps_get e3 h2
    refine ⟨⟨xs, v, e2, g1⟩, fun x H2 ⟨T, w, q1, q2, q3, q4⟩ => ?_⟩
    subst q1 q3 hd
    have rr : Reps K ρ' H' [.int (i : Int), y] [.int (i : Nat), w] := reps_cons (by simp only [Rep]) (reps_cons (reps_at e3 h2 (q4 xs e2)) reps_nil)
    obtain ⟨ev, rp⟩ := ho.newTup q2 rr
    exact ⟨rp, ev.drop⟩
theorem link_zip {p q : P} {a b : Addr} (np : ∀ b ds, p ≠ .own b ds) (nq : ∀ b ds, q ≠ .own b ds) (r : PR K ρ H p (.ref a)) (r2 : PR K ρ H q (.ref b)) :
    Link K ⟨fun i δ μ => ∃ ds es, lget δ μ p = some ds ∧ lget δ μ q = some es ∧ (ds.length ≤ i ∨ es.length ≤ i), (zipD (livD p) (livD q)).item⟩ ρ H (Itz K a b) := fun ρ' μ δ σ H' ex st ho i => by
  have r' := r.later ex st np
  have r2' := r2.later ex st nq
  refine ⟨fun ⟨ds, es, h1, h2, h3⟩ => ?_, fun d ⟨y, z, ⟨ds, h1, h2⟩, ⟨es, k1, k2⟩, hd⟩ => ?_⟩
  · obtain ⟨_, xs, e1, e2, e3⟩ := lget_ok ho r' h1
    cases e1
    obtain ⟨_, ys, g1, g2, g3⟩ := lget_ok ho r2' h2
    cases g1
    exact ⟨xs, ys, e2, g2, by rw [← reps_len e3, ← reps_len g3]; exact h3⟩
  · obtain ⟨_, xs, e1, e2, e3⟩ := lget_ok ho r' h1
    cases e1
    obtain ⟨_, ys, g1, g2, g3⟩ := lget_ok ho r2' k1
    cases g1
    obtain ⟨v, w1, w2⟩ := reps_get e3 h2
    obtain ⟨v2, w3, w4⟩ := reps_get g3 k2
    refine ⟨⟨xs, ys, v, v2, e2, g2, w1, w3⟩, fun x H2 ⟨T, w, w', q1, q2, q3, q4, q5⟩ => ?_⟩
    subst q1 q3 hd
    have rr : Reps K ρ' H' [y, z] [w, w'] := reps_cons (reps_at e3 h2 (q4 xs e2)) (reps_cons (reps_at g3 k2 (q5 ys g2)) reps_nil)
    obtain ⟨ev, rp⟩ := ho.newTup q2 rr
    exact ⟨rp, ev.drop⟩
end
/-! ### iterables -/
def iRng1D (f : FE) : FI := fun δ μ C E => f δ μ (fun p μ1 => match p with | .val (.int j) => (-(2 ^ 62) ≤ j ∧ j < 2 ^ 62) ∧ C (rngD 0 j.toNat) μ1 | _ => False) E
def iRng2D (f g : FE) : FI := fun δ μ C E => f δ μ (fun p μ1 => g δ μ1 (fun q μ2 => match p, q with | .val (.int i), .val (.int j) => (-(2 ^ 62) ≤ i ∧ i < 2 ^ 62 ∧ -(2 ^ 62) ≤ j ∧ j < 2 ^ 62) ∧ C (rngD i (j - i).toNat) μ2 | _, _ => False) E) E
/-- a list that stands alone is locked, then as it is -/
def asB (p : P) (C : P → Prop) : Prop := match p with
  | .own _ ds => C (.val (.lst ds))
  | p => C p
def eFrzB (f : FE) : FE := fun δ μ C E => f δ μ (fun p μ1 => asB p fun q => C q μ1) E
theorem e_frzB {X : Cx} {W : WX} {e : Expr} {f : FE} (h : EF X W e f) : EF X W e (eFrzB f) := pe_imp (pe_frz h) fun σ H Q ⟨ρ, μ, δ, C, E, ho, c, hC, hX⟩ =>
  ⟨ρ, μ, δ, _, E, ho, c, fun p μ1 c1 ρ1 H1 v1 e1 r1 => by
    cases p with
    | val d => exact .inl (hC _ μ1 c1 ρ1 H1 v1 e1 r1)
    | own a ds =>
      obtain ⟨rfl, xs, h1, h2⟩ := r1
      refine .inr ⟨a, xs, rfl, h1, fun o => ?_⟩
      obtain ⟨ev, rp⟩ := frz_evo (o := o) e1 h1 h2
      exact hC (.val (.lst ds)) μ1 c1 ρ1 _ _ ev rp
    | bor a pl => exact .inl (hC _ μ1 c1 ρ1 H1 v1 e1 r1), hX⟩
/-- the items of p -/
def itOf (δ : Sl) (μ : Mu) (p : P) (C : ItD → Prop) : Prop := match p with
  | .val (.tup ds) => C (fixD ds)
  | .val (.lst ds) => C (fixD ds)
  | .val (.kls ds) => C (fixD ds)
  | .own _ _ => False
  | q => (lget δ μ q).isSome = true ∧ C (livD q)
def iSeq (f : FE) : FI := fun δ μ C E => f δ μ (fun p μ1 => asB p fun q => itOf δ μ1 q fun it => C it μ1) E
def isOwn : P → Bool
  | .own _ _ => true
  | _ => false
/-- a list, not a tuple: where one is wanted -/
def livOf (δ : Sl) (μ : Mu) (p : P) : Prop := isOwn p = false ∧ (lget δ μ p).isSome = true
def iEnumD (f : FE) : FI := fun δ μ C E => f δ μ (fun p μ1 => asB p fun q => livOf δ μ1 q ∧ C (enuD (livD q)) μ1) E
section
variable {X : Cx} {W : WX} {tg e a b : Expr} {f fa fb : FE} {pos p : Pos}
theorem foot_val (d : D) (x : Addr) : footP (.val d) x = 0 := rfl
theorem foot_no {q : P} (h : isOwn q = false) (x : Addr) : footP q x = 0 := by
  cases q with
  | own a ds => simp [isOwn] at h
  | _ => rfl
theorem np_of {q : P} (h : isOwn q = false) : ∀ b ds, q ≠ .own b ds := fun b ds e => by rw [e] at h; simp [isOwn] at h
theorem i_seq (h : EF X W e f) : IF X W tg e (iSeq f) := pi_imp (pi_seq2 (e_frzB h)) fun σ H R ⟨ρ, μ, δ, C, E, ho, c, hC, hX⟩ =>
  ⟨ρ, μ, δ, fun q μ1 => itOf δ μ1 q fun it => C it μ1, E, ho, c, fun q μ1 c1 ρ1 H1 v1 e1 r1 => by
    have ho1 := ho.after e1
    have live : ∀ {q : P}, isOwn q = false → PR X.K ρ1 H1 q v1 → (lget δ μ1 q).isSome = true → C (livD q) μ1 → ∃ a, v1 = .ref a ∧ (((∃ xs, SqL X.K H1 a xs) ∧ R (Itl X.K a) H1) ∨ ((∃ xs, SqT X.K H1 a xs) ∧ R (Itt X.K a) H1)) := fun {q} nq r z c => by
      obtain ⟨ds, hl⟩ := Option.isSome_iff_exists.mp z
      obtain ⟨a, xs, rfl, e2, e3⟩ := lget_ok ho1 r hl
      exact ⟨a, rfl, .inl ⟨⟨xs, e2⟩, hC _ μ1 c ρ1 H1 _ e1.drop (link_liv (np_of nq) r)⟩⟩
    have fixed : ∀ {d : D} {ds : List D}, lget [] [] (.val d) = some ds → lget δ μ1 (.val d) = some ds → PR X.K ρ1 H1 (.val d) v1 → C (fixD ds) μ1 → ∃ a, v1 = .ref a ∧ (((∃ xs, SqL X.K H1 a xs) ∧ R (Itl X.K a) H1) ∨ ((∃ xs, SqT X.K H1 a xs) ∧ R (Itt X.K a) H1)) := fun {d ds} z1 z2 r c => by
      obtain ⟨a, xs, rfl, e2, e3⟩ := lget_ok ho1 r z2
      exact ⟨a, rfl, .inl ⟨⟨xs, e2⟩, hC _ μ1 c ρ1 H1 _ e1.drop (link_fixL z1 r)⟩⟩
    cases q with
    | val d =>
      cases d with
      | tup ds =>
        obtain ⟨a, xs, rfl, e2, e3⟩ := pr_tup r1
        exact ⟨a, rfl, .inr ⟨⟨xs, e2.seq⟩, hC _ μ1 c1 ρ1 H1 _ e1.drop (link_fixT e2 e3)⟩⟩
      | lst ds => exact fixed rfl rfl r1 c1
      | kls ds => exact fixed rfl rfl r1 c1
      | _ => exact live rfl r1 c1.1 c1.2
    | own a ds => exact c1.elim
    | bor a pl => exact live rfl r1 c1.1 c1.2, hX⟩
theorem i_range1 (hm : X.mg "range" = none) (ha : EF X W a fa) (hg : Gl X "range" := by rfl) (hs : starEach [a] X.env = (false, eval a X.env) :: starEach [] X.env := by rfl) : IF X W tg (.Call (.Name "range" p) [a] [] pos) (iRng1D fa) :=
  pi_imp (pi_range1 hg hm (pa_cons ha pa_nil hs) hs) fun σ H R ⟨ρ, μ, δ, C, E, ho, c, hC, hX⟩ =>
  ⟨ρ, μ, δ, _, E, ho, c, fun p μ1 c1 ρ1 H1 v1 e1 r1 => by
    split at c1
    · obtain rfl := pr_int r1
      exact ⟨_, rfl, c1.1.1, c1.1.2, hC _ μ1 c1.2 ρ1 H1 _ e1.drop (link_rng _ _)⟩
    · exact c1.elim, hX⟩
theorem i_range2 (hm : X.mg "range" = none) (ha : EF X W a fa) (hb : EF X W b fb) (hg : Gl X "range" := by rfl) (hs : starEach [a, b] X.env = (false, eval a X.env) :: starEach [b] X.env := by rfl) (hs2 : starEach [b] X.env = (false, eval b X.env) :: starEach [] X.env := by rfl) : IF X W tg (.Call (.Name "range" p) [a, b] [] pos) (iRng2D fa fb) :=
  pi_imp (pi_range2 hg hm (pa_cons ha (pa_cons hb pa_nil hs2) hs) (by rw [hs, hs2]; rfl) hs2) fun σ H R ⟨ρ, μ, δ, C, E, ho, c, hC, hX⟩ =>
  ⟨ρ, μ, δ, _, E, ho, c, fun p μ1 c1 ρ1 H1 v1 e1 r1 => by
    refine ⟨ρ1, μ1, δ, _, E, ho.after e1, c1, fun q μ2 c2 ρ2 H2 v2 e2 r2 => ?_, hX.after e1⟩
    obtain ⟨r1', _⟩ := e1.wait r1 e2
    split at c2
    · obtain rfl := pr_int r1'
      obtain rfl := pr_int r2
      exact ⟨_, _, rfl, c2.1, hC _ μ2 c2.2 ρ2 H2 _ (e1.drop.transM e2.drop) (link_rng _ _)⟩
    · exact c2.elim, hX⟩
end
end NT

/-! NT: for, while, list comprehensions by values. -/
namespace NT
open PySem PySem.Spec PyProof.Rows L2

def fFor (fi : FI) (g : FG) (b : FS) : FS := fun D δ μ => fi δ μ (fun it μ1 => ∃ Iv : Nat → Nat → Sl → Mu → Prop, (∃ m, Iv 0 m δ μ1) ∧ ∀ i m δ' μ', Iv i m δ' μ' → (it.stop i δ' μ' ∧ D.nx δ' μ') ∨
  ∃ d, it.item i δ' μ' d ∧ g (.val d) δ' μ' (fun δ2 μ2 => b { D with nx := fun δ3 μ3 => ∃ m', m' < m ∧ Iv (i + 1) m' δ3 μ3, ct := fun δ3 μ3 => ∃ m', m' < m ∧ Iv (i + 1) m' δ3 μ3, bk := D.nx } δ2 μ2) D.ex) (fun x μ1 => D.ex x δ μ1)
def fWhile (t : FT) (b : FS) : FS := fun D δ μ => ∃ Iv : Nat → Sl → Mu → Prop, (∃ m, Iv m δ μ) ∧ ∀ m δ' μ', Iv m δ' μ' →
  t δ' μ' (fun k μ1 => if k = true then b { D with nx := fun δ3 μ3 => ∃ m', m' < m ∧ Iv m' δ3 μ3, ct := fun δ3 μ3 => ∃ m', m' < m ∧ Iv m' δ3 μ3, bk := D.nx } δ' μ1 else D.nx δ' μ1) (fun x μ1 => D.ex x δ' μ1)
section
variable {X : Cx} {W : WX} {pos : Pos}
theorem Hold.stayB {K : PySem.W.Frag} {ρ ρ1 : List Addr} {μ μ1 : Mu} {δ : Sl} {σ : L2.St} {H H1 : Hp} {F : Addr → Nat} (h : Hold K ρ μ δ σ H) (e : Evo K (footB ρ μ δ) ρ H ρ1 μ1 H1 F) : Stay H H1 := e.stay fun x q => h.foot q
theorem footP1_val (d : D) (ρ : List Addr) (μ : Mu) (δ : Sl) : footP1 (.val d) ρ μ δ = footB ρ μ δ := by
  funext x
  show footP (.val d) x + footB ρ μ δ x = _
  rw [foot_val, Nat.zero_add]
theorem s_for {iter tg : Expr} {body : List Stmt} {fi : FI} {g : FG} {b : FS} (hp : PassesOwn (model X.prog X.w) X.A X.env X.xe) (hc : X.calm = true) (hi : IF X W tg iter fi) (hg : GF X W tg g) (hb : BF X W body b)
    (hs : ∀ x, foldedSetIterable iter X.env x = pure x := by intro _; rfl) : SF X W (.For tg iter body [] pos) (fFor fi g b) := ps_imp (ps_for hp hc hi hg hb hs) fun D σ H ⟨ρ, μ, δ, D', ho, c, k⟩ =>
  ⟨ρ, μ, δ, _, _, ho, c, fun it μ1 c1 ρ1 H1 J e1 lk => by
    obtain ⟨Iv, ⟨m0, i0⟩, step⟩ := c1
    refine ⟨fun i m σ' H' => ∃ ρ' μ' δ', Iv i m δ' μ' ∧ Hold X.K ρ' μ' δ' σ' H' ∧ Ext ρ1 ρ' ∧ Stay H1 H' ∧ FDOk X.K W ρ' μ' δ' H' D' D, ⟨m0, ρ1, μ1, δ, i0, ho.after e1, Ext.refl _, Stay.refl _, k.afterE ho e1⟩, ?_⟩
    rintro i m σ' H' ⟨ρ', μ', δ', iv, ho', ex, st, k'⟩
    obtain ⟨l1, l2⟩ := lk ρ' μ' δ' σ' H' ex st ho' i
    rcases step i m δ' μ' iv with ⟨c2, c3⟩ | ⟨d, c2, c3⟩
    · exact .inl ⟨l1 c2, k'.nx δ' μ' c3 ρ' σ' H' ho'.reflS ho'.ss⟩
    · obtain ⟨go, yl⟩ := l2 d c2
      refine .inr ⟨go, fun σ3 H3 => ∃ m', m' < m ∧ ∃ ρ' μ' δ', Iv (i + 1) m' δ' μ' ∧ Hold X.K ρ' μ' δ' σ3 H3 ∧ Ext ρ1 ρ' ∧ Stay H1 H3 ∧ FDOk X.K W ρ' μ' δ' H3 D' D, fun σ3 H3 h => h, fun x H2 y => ?_⟩
      obtain ⟨rx, e2⟩ := yl x H2 y
      have ho2 := ho'.after e2
      have k2 := k'.afterE ho' e2
      have st2 := st.trans (e2.stayM ho'.sm)
      refine ⟨ρ', μ', δ', .val d, _, _, ho2, rx, fun z => by rw [footP1_val]; exact ho2.one z, c3, fun δ3 μ3 c4 ρ3 σ3 H3 e3 s3 => ?_, fun z δ3 μ3 q ρ3 σ3 H3 cls dd e3 s3 r3 => k2.ex z δ3 μ3 q ρ3 σ3 H3 cls dd (by rw [footP1_val] at e3; exact e3) s3 r3⟩
      rw [footP1_val] at e3
      have ho3 : Hold X.K ρ3 μ3 δ3 σ3 H3 := Hold.mk' e3 s3
      have k3 := k2.after e3
      have st3 := st2.trans (ho2.stayB e3)
      have ex3 := ex.trans e3.ext
      have again : SOut X.K ρ3 μ3 δ3 H3 (fun δ4 μ4 => ∃ m', m' < m ∧ Iv (i + 1) m' δ4 μ4) (fun σ4 H4 => ∃ m', m' < m ∧ ∃ ρ' μ' δ', Iv (i + 1) m' δ' μ' ∧ Hold X.K ρ' μ' δ' σ4 H4 ∧ Ext ρ1 ρ' ∧ Stay H1 H4 ∧ FDOk X.K W ρ' μ' δ' H4 D' D) :=
        fun δ4 μ4 ⟨m', lt, iv4⟩ ρ4 σ4 H4 e4 s4 => ⟨m', lt, ρ4, μ4, δ4, iv4, Hold.mk' e4 s4, ex3.trans e4.ext, st3.trans (ho3.stayB e4), k3.after e4⟩
      exact ⟨ρ3, μ3, δ3, _, ho3, c4, ⟨again, k3.nx, again, k3.rt, k3.ex⟩⟩, k.xout ho⟩
theorem s_while {c : Expr} {body : List Stmt} {t : FT} {b : FS} (hp : PassesOwn (model X.prog X.w) X.A X.env X.xe) (hc : TF X W c t) (hb : BF X W body b) : SF X W (.While c body [] pos) (fWhile t b) := ps_imp (ps_while hp hc hb) fun D σ H ⟨ρ, μ, δ, D', ho, ⟨Iv, ⟨m0, i0⟩, step⟩, k⟩ => by
  refine ⟨fun m σ' H' => ∃ ρ' μ' δ', Iv m δ' μ' ∧ Hold X.K ρ' μ' δ' σ' H' ∧ FDOk X.K W ρ' μ' δ' H' D' D, ⟨m0, ρ, μ, δ, i0, ho, k⟩, ?_⟩
  rintro m σ' H' ⟨ρ', μ', δ', iv, ho', k'⟩
  refine ⟨ρ', μ', δ', _, _, ho', step m δ' μ' iv, fun q μ1 c1 ρ1 H1 e1 => ?_, k'.xout ho'⟩
  have ho1 := ho'.after e1
  have k1 := k'.afterE ho' e1
  cases q with
  | false => exact k1.nx _ μ1 c1 ρ1 _ H1 ho1.reflS ho1.ss
  | true =>
    rw [if_pos rfl] at c1
    simp only [↓reduceIte]
    have again : SOut X.K ρ1 μ1 δ' H1 (fun δ4 μ4 => ∃ m', m' < m ∧ Iv m' δ4 μ4) (fun σ4 H4 => ∃ m', m' < m ∧ ∃ ρ' μ' δ', Iv m' δ' μ' ∧ Hold X.K ρ' μ' δ' σ4 H4 ∧ FDOk X.K W ρ' μ' δ' H4 D' D) :=
      fun δ4 μ4 ⟨m', lt, iv4⟩ ρ4 σ4 H4 e4 s4 => ⟨m', lt, ρ4, μ4, δ4, iv4, Hold.mk' e4 s4, k1.after e4⟩
    exact ⟨_, fun σ3 H3 h => h, ρ1, μ1, δ', _, ho1, c1, ⟨again, k1.nx, again, k1.rt, k1.ex⟩⟩
end

/-! ### targets of a comprehension -/
abbrev FP := Sl → D → Option Sl
abbrev FPs := Sl → List D → Option Sl
def pNm (i : Nat) : FP := fun δ d => some (δ.set i (some (.val d)))
def pTp (n : Nat) (ps : FPs) : FP := fun δ d => match d with
  | .tup ds => if ds.length = n then ps δ ds else none
  | _ => none
def psNil : FPs := fun δ ds => match ds with
  | [] => some δ
  | _ => none
def psCons (p : FP) (r : FPs) : FPs := fun δ ds => match ds with
  | d :: ds => (p δ d).bind fun δ' => r δ' ds
  | [] => none
def ptT (K : PySem.W.Frag) (vs : List Nat) (fp : FP) : TG := fun v σ H Q => ∃ ρ δ d δ', SS K ρ H δ σ ∧ Rep K ρ H d v ∧ fp δ d = some δ' ∧ ∀ σ', SS K ρ H δ' σ' → σ'.length = σ.length → (∀ j, j ∉ vs → σ'[j]? = σ[j]?) → Q σ' H
def ptsT (K : PySem.W.Frag) (vs : List Nat) (fp : FPs) : TGs := fun us σ H Q => ∃ ρ δ ds δ', SS K ρ H δ σ ∧ Reps K ρ H ds us ∧ fp δ ds = some δ' ∧ ∀ σ', SS K ρ H δ' σ' → σ'.length = σ.length → (∀ j, j ∉ vs → σ'[j]? = σ[j]?) → Q σ' H
structure PtF (X : Cx) (tg : Expr) (vs : List Nat) (fp : FP) : Prop where
  run : PG X tg (ptT X.K vs fp)
  foot : ∀ δ d δ' x, fp δ d = some δ' → footS δ' x ≤ footS δ x
structure PtsF (X : Cx) (tgs : List Expr) (vs : List Nat) (fp : FPs) : Prop where
  run : PGs X tgs (ptsT X.K vs fp)
  foot : ∀ δ ds δ' x, fp δ ds = some δ' → footS δ' x ≤ footS δ x
section
variable {X : Cx} {pos : Pos}
theorem p_nm {i : Nat} {x : Str} (hN : X.N.Nodup) (hi : X.N[i]? = some x := by rfl) (hx : Loc X.env.scope x := by first | exact Or.inl rfl | exact Or.inr rfl) (hf : X.fn x = true ∨ X.env.scope.names.lookup x = some .local := by first | exact .inl rfl | exact .inr rfl | assumption) : PtF X (.Name x pos) [i] (pNm i) :=
  by
  refine ⟨pg_imp (pg_name hN hi hx hf) fun v σ H Q ⟨ρ, δ, d, δ', ss, r, e, q⟩ => ?_, fun δ d δ' x e => ?_⟩
  · cases e
    exact q _ (ss.put (p := .val d) r) (by simp) fun j hj => List.getElem?_set_ne (by simp at hj; omega)
  · cases e
    have := footS_le δ i (.val d) x
    rw [foot_val] at this
    omega
theorem ps_nil' : PtsF X [] [] psNil := by
  refine ⟨pgs_imp pgs_nil fun us σ H Q ⟨ρ, δ, ds, δ', ss, r, e, q⟩ => ?_, fun δ ds δ' x e => ?_⟩
  · cases ds with
    | nil =>
      cases e
      simp only [Reps] at r
      exact ⟨r, q σ ss rfl fun _ _ => rfl⟩
    | cons d ds => cases e
  · cases ds with
    | nil => cases e; exact Nat.le_refl _
    | cons d ds => cases e
theorem ps_cons' {e : Expr} {es : List Expr} {v1 v2 : List Nat} {p : FP} {r : FPs} (h1 : PtF X e v1 p) (h2 : PtsF X es v2 r) (hs : (assignEach (e :: es) X.env).map (·.2) = assign e X.env :: (assignEach es X.env).map (·.2) := by rfl) : PtsF X (e :: es) (v1 ++ v2) (psCons p r) :=
  by
  refine ⟨pgs_imp (pgs_cons h1.run h2.run hs) fun us σ H Q ⟨ρ, δ, ds, δ', ss, rr, e, q⟩ => ?_, fun δ ds δ' x e => ?_⟩
  · cases ds with
    | nil => cases e
    | cons d ds =>
      simp only [Reps] at rr
      obtain ⟨v, t, rfl, r1, r2⟩ := rr
      simp only [psCons] at e
      cases h : p δ d with
      | none => rw [h] at e; cases e
      | some δ1 =>
        rw [h] at e
        refine ⟨v, t, rfl, ρ, δ, d, δ1, ss, r1, h, fun σ1 s1 l1 k1 => ⟨ρ, δ1, ds, δ', s1, r2, e, fun σ2 s2 l2 k2 => q σ2 s2 (by omega) fun j hj => ?_⟩⟩
        rw [List.mem_append, not_or] at hj
        rw [k2 j hj.2, k1 j hj.1]
  · cases ds with
    | nil => cases e
    | cons d ds =>
      simp only [psCons] at e
      cases h : p δ d with
      | none => rw [h] at e; cases e
      | some δ1 =>
        rw [h] at e
        have := h1.foot δ d δ1 x h
        have := h2.foot δ1 ds δ' x e
        omega
theorem p_tp {es : List Expr} {k n : Nat} {vs : List Nat} {r : FPs} (hc : X.calm = true) (h : PtsF X es vs r) (hn : (assignEach es X.env).length = n := by rfl) (hst : (assignEach es X.env).findIdx? (·.1) = none := by rfl) : PtF X (.Tuple es k pos) vs (pTp n r) :=
  by
  refine ⟨pg_imp (pg_tup hc h.run hn hst) fun v σ H Q ⟨ρ, δ, d, δ', ss, rr, e, q⟩ => ?_, fun δ d δ' x e => ?_⟩
  · cases d with
    | tup ds =>
      simp only [pTp] at e
      split at e
      · rename_i hl
        obtain ⟨a, xs, rfl, e2, e3⟩ := pr_tup (K := X.K) rr
        exact ⟨a, xs, rfl, e2.seq, by rw [← reps_len e3]; exact hl, ρ, δ, ds, δ', ss, e3, e, q⟩
      · cases e
    | _ => cases e
  · cases d with
    | tup ds =>
      simp only [pTp] at e
      split at e
      · exact h.foot δ ds δ' x e
      · cases e
    | _ => cases e
end

/-! ### list comprehensions -/
def wipeD (δ : Sl) : List Nat → Sl
  | [] => δ
  | v :: vs => (wipeD δ vs).set v none
/-- nothing is raised -/
abbrev W0 : WX := fun _ _ _ _ => False
abbrev X0 : CX := fun _ _ => False
def tYesD : FT := fun _ μ C _ => C true μ
def eLc (fi : FI) (fp : FP) (t : FT) (f : FE) (vs : List Nat) : FE := fun δ μ C E => fi δ μ (fun it μ1 => ∃ Iv : Nat → Nat → List D → Mu → Prop, (∃ m, Iv 0 m [] μ1) ∧ ∀ i m acc μ', Iv i m acc μ' → (it.stop i (wipeD δ vs) μ' ∧ ∀ a, C (.own a acc) μ') ∨
  ∃ d δ2, it.item i (wipeD δ vs) μ' d ∧ fp (wipeD δ vs) d = some δ2 ∧ acc.length < sizeLine ∧ t δ2 μ' (fun b μ2 => if b = true then f δ2 μ2 (fun p μ3 => asD p fun y => ∃ m', m' < m ∧ Iv (i + 1) m' (acc ++ [y]) μ3) X0 else ∃ m', m' < m ∧ Iv (i + 1) m' acc μ2) X0) E
/-- tests of a comprehension -/
def TSF (X : Cx) (W : WX) (es : List Expr) (f : FT) : Prop := PTs X es (liftT X.K W f)
theorem pts_imp {X : Cx} {e : List Expr} {t t' : TT} (h : PTs X e t) (i : ∀ σ H Q, t' σ H Q → t σ H Q) : PTs X e t' := ⟨fun pins s σ H Q I q => h.run pins s σ H Q I (i σ H Q q)⟩
theorem ts_nil {X : Cx} {W : WX} : TSF X W [] tYesD := pts_imp pts_nil fun σ H Q ⟨ρ, μ, δ, C, E, ho, c, hC, hX⟩ => hC _ μ c ρ H ho.refl
theorem ts_one {X : Cx} {W : WX} {e : Expr} {t : FT} (h : TF X W e t) : TSF X W [e] t := pts_one h
section
variable {K : PySem.W.Frag} {W : WX} {ρ ρ1 ρ2 : List Addr} {μ μ1 μ2 : Mu} {δ δ1 : Sl} {σ σ1 : L2.St} {H H1 H2 : Hp} {F : Addr → Nat} {E : CX}
theorem SS.clear (i : Nat) (h : SS K ρ H δ σ) : SS K ρ H (δ.set i none) (σ.set i none) := by
  refine ⟨by simp [h.len], fun j q e => ?_⟩
  by_cases hj : i = j
  · subst hj
    by_cases hi : i < δ.length
    · rw [List.getElem?_set_self hi] at e
      cases e
    · rw [List.set_eq_of_length_le (by omega)] at e
      rw [List.getElem?_eq_none (by omega)] at e
      cases e
  · rw [List.getElem?_set_ne hj] at e
    obtain ⟨u, h1, h2⟩ := h.at_ j q e
    exact ⟨u, by rw [List.getElem?_set_ne hj]; exact h1, h2⟩
theorem SS.wipe (h : SS K ρ H δ σ) : ∀ vs : List Nat, SS K ρ H (wipeD δ vs) (wipe σ vs)
  | [] => h
  | v :: vs => (SS.wipe h vs).clear v
theorem foot_none (δ : Sl) (i : Nat) (x : Addr) : footS (δ.set i none) x ≤ footS δ x := by
  cases q : δ[i]? with
  | none =>
    have hl : δ.length ≤ i := List.getElem?_eq_none_iff.mp q
    rw [List.set_eq_of_length_le hl]
    exact Nat.le_refl _
  | some so =>
    have := footS_set (none : Option P) x q
    cases so <;> simp at this <;> omega
theorem foot_wipe (δ : Sl) (x : Addr) : ∀ vs : List Nat, footS (wipeD δ vs) x ≤ footS δ x
  | [] => Nat.le_refl _
  | v :: vs => Nat.le_trans (foot_none _ v x) (foot_wipe δ x vs)
theorem wipe_agree : ∀ (vs : List Nat) {σ σ' : L2.St}, σ'.length = σ.length → (∀ j, j ∉ vs → σ'[j]? = σ[j]?) → wipe σ' vs = wipe σ vs := by
  intro vs σ σ' hl h
  refine List.ext_getElem? fun j => ?_
  have key : ∀ (τ : L2.St) (us : List Nat), (wipe τ us)[j]? = if j ∈ us then (if j < τ.length then some none else none) else τ[j]? := fun τ us => by
    induction us with
    | nil => simp [wipe]
    | cons u us ih =>
      simp only [wipe]
      by_cases e : u = j
      · subst e
        rw [List.getElem?_set]
        simp [wipe_length]
      · rw [List.getElem?_set_ne e, ih]
        by_cases e2 : j ∈ us
        · simp [e2]
        · have : ¬ j ∈ u :: us := by simp [e2]; exact fun z => e z.symm
          simp [e2, this]
  rw [key, key, hl]
  by_cases e : j ∈ vs
  · simp [e]
  · simp [e, h j e]
theorem wipe_wipe (σ : L2.St) (vs : List Nat) : wipe (wipe σ vs) vs = wipe σ vs := by
  refine List.ext_getElem? fun j => ?_
  have key : ∀ (τ : L2.St) (us : List Nat), (wipe τ us)[j]? = if j ∈ us then (if j < τ.length then some none else none) else τ[j]? := fun τ us => by
    induction us with
    | nil => simp [wipe]
    | cons u us ih =>
      simp only [wipe]
      by_cases e : u = j
      · subst e
        rw [List.getElem?_set]
        simp [wipe_length]
      · rw [List.getElem?_set_ne e, ih]
        by_cases e2 : j ∈ us
        · simp [e2]
        · have : ¬ j ∈ u :: us := by simp [e2]; exact fun z => e z.symm
          simp [e2, this]
  rw [key, key, wipe_length]
  by_cases e : j ∈ vs <;> simp [e]
/-- the list that stands alone grows -/
theorem own_put {B : Addr → Nat} {a : Addr} {ds nw : List D} {xs ys : List V} (e : Evo K B ρ H ρ1 μ1 H1 (footP (.own a ds))) (h : H1 a = some (.lst xs)) (r : Reps K ρ1 H1 nw ys) :
    Evo K B ρ H ρ1 μ1 (upd H1 a (.lst ys)) (footP (.own a nw)) ∧ PR K ρ1 (upd H1 a (.lst ys)) (.own a nw) (.ref a) := by
  have fa : footP (.own a ds) a = 1 := by simp [footP]
  have st : Stay H1 (upd H1 a (.lst ys)) := fun b u q f => by
    rw [upd_ne]
    · exact q
    · intro z
      rw [z, h] at q
      cases q
      exact f
  have z : ∀ b, 1 ≤ footM ρ1 μ1 b → b ≠ a := fun b q w => by
    have := e.one b
    rw [w, fa] at this
    rw [w] at q
    omega
  refine ⟨⟨e.sm.stay st fun b u q w => by rw [upd_ne (z b q)]; exact w, e.ext, fun b u q w => ?_, e.grow, e.one⟩, rfl, ys, upd_same, r.stay st (Ext.refl _)⟩
  have k := e.keep b u q w
  rw [upd_ne]
  · exact k
  · intro t
    rcases e.grow b (by rw [t, fa]; omega) with g | g
    · omega
    · rw [q] at g
      cases g
end
end NT

/-! NT: list comprehensions by values. -/
namespace NT
open PySem PySem.Spec PyProof.Rows L2

section
variable {K : PySem.W.Frag} {W : WX}
theorem xout0 {ρ : List Addr} {μ : Mu} {σ : L2.St} {H : Hp} : XOut K W0 ρ μ σ H X0 := fun _ _ c => c.elim
theorem lc_lift {fi : FI} {fp : FP} {t : FT} {f : FE} {vs ws : List Nat} {σ : L2.St} {H : Hp} {Q : VK} (hv : ∀ j ∈ ws, j ∈ vs) (hfoot : ∀ δ d δ' x, fp δ d = some δ' → footS δ' x ≤ footS δ x) (h : liftE K W (eLc fi fp t f vs) σ H Q) :
    tLc (liftI K W fi) (ptT K ws fp) (liftT K W0 t) (liftE K W0 (eFrz f)) vs σ H Q := by
  obtain ⟨ρ, μ, δ, C, E, ho, c, hC, hX⟩ := h
  refine ⟨ρ, μ, δ, _, E, ho, c, fun it μ1 c1 ρ1 H1 J e1 lk D nD => ?_, hX⟩
  obtain ⟨Iv, ⟨m0, i0⟩, step⟩ := c1
  obtain ⟨ev0, pr0⟩ := (ho.after e1).newList nD (reps_nil (K := K) (ρ := ρ1) (H := H1))
  refine ⟨fun i m H' => ∃ ρ' μ' acc, Iv i m acc μ' ∧ Evo K (footM ρ μ) ρ H ρ' μ' H' (footP (.own D acc)) ∧ PR K ρ' H' (.own D acc) (.ref D) ∧ Ext ρ1 ρ' ∧ Stay H1 H', ⟨m0, ρ1, μ1, [], i0, e1.transM ev0, pr0, Ext.refl _, ev0.stayM (ho.after e1).sm⟩, ?_⟩
  rintro i m H' ⟨ρ', μ', acc, iv, ev, pr, ex, st⟩
  have hd := ho.after ev
  have hw : Hold K ρ' μ' (wipeD δ vs) (wipe σ vs) H' := ⟨hd.sm, hd.ss.wipe vs, fun x => by have := hd.one x; have := foot_wipe δ x vs; omega⟩
  obtain ⟨l1, l2⟩ := lk ρ' μ' _ _ H' ex st hw i
  rcases step i m acc μ' iv with ⟨c2, c3⟩ | ⟨d, δ2, c2, c3, c4, c5⟩
  · exact .inl ⟨l1 c2, hC _ μ' (c3 D) ρ' H' _ ev pr⟩
  · obtain ⟨go, yl⟩ := l2 d c2
    refine .inr ⟨go, fun H3 => ∃ m', m' < m ∧ ∃ ρ' μ' acc, Iv (i + 1) m' acc μ' ∧ Evo K (footM ρ μ) ρ H ρ' μ' H3 (footP (.own D acc)) ∧ PR K ρ' H3 (.own D acc) (.ref D) ∧ Ext ρ1 ρ' ∧ Stay H1 H3, fun H3 h => h, fun x H2 y => ?_⟩
    obtain ⟨rx, e2⟩ := yl x H2 y
    have hw2 := hw.after e2
    refine ⟨ρ', _, d, δ2, hw2.ss, rx, c3, fun σ2 s2 hl hag => ⟨?_, ?_⟩⟩
    · have := wipe_agree vs hl fun j hj => hag j fun z => hj (hv j z)
      rw [this, wipe_wipe]
    · have hold2 : Hold K ρ' μ' δ2 σ2 H2 := ⟨hw2.sm, s2, fun z => by have := hw2.one z; have := hfoot _ _ _ z c3; omega⟩
      refine ⟨ρ', μ', δ2, _, _, hold2, c5, fun b μ3 c6 ρ3 H3 e3 => ?_, xout0⟩
      have e23 := e2.transM e3
      cases b with
      | false =>
        simp only [Bool.false_eq_true, ↓reduceIte] at c6 ⊢
        obtain ⟨m', lt, iv'⟩ := c6
        have et := ev.waitF e23 fun z q => let ⟨xs, e⟩ := pr.foot q; ⟨_, e⟩
        have et' : Evo K (footM ρ μ) ρ H ρ3 μ3 H3 (footP (.own D acc)) := et.less fun z => by omega
        obtain ⟨pr', _⟩ := ev.wait pr e23
        exact ⟨m', lt, ρ3, μ3, acc, iv', et', pr', ex.trans e23.ext, st.trans (e23.stayM hd.sm)⟩
      | true =>
        simp only [↓reduceIte] at c6 ⊢
        have hold3 := hold2.after e3
        refine ⟨ρ3, μ3, δ2, fun p μ4 => ∃ y, p = .val y ∧ ∃ m', m' < m ∧ Iv (i + 1) m' (acc ++ [y]) μ4, X0, hold3, ?_, fun p μ4 c7 ρ4 H4 v4 e4 r4 => ?_, xout0⟩
        · unfold eFrz
          have z : (fun (p : P) (μ4 : Mu) => asD p fun d => ∃ y, P.val d = .val y ∧ ∃ m', m' < m ∧ Iv (i + 1) m' (acc ++ [y]) μ4) = fun p μ4 => asD p fun y => ∃ m', m' < m ∧ Iv (i + 1) m' (acc ++ [y]) μ4 := by
            funext p μ4
            cases p with
            | val d => exact propext ⟨fun ⟨d', e, h⟩ => by cases e; exact h, fun h => ⟨d, rfl, h⟩⟩
            | own a ds => exact propext ⟨fun ⟨d', e, h⟩ => by cases e; exact h, fun h => ⟨_, rfl, h⟩⟩
            | bor a pl => rfl
          rw [z]
          exact c6
        · obtain ⟨y4, rfl, m', lt, iv'⟩ := c7
          have e24 := e23.transM e4.drop
          have et := ev.waitF e24 fun z q => let ⟨xs, e⟩ := pr.foot q; ⟨_, e⟩
          have et' : Evo K (footM ρ μ) ρ H ρ4 μ4 H4 (footP (.own D acc)) := et.less fun z => by omega
          obtain ⟨⟨_, xs, hD, rs⟩, _⟩ := ev.wait pr e24
          have ra : Reps K ρ4 H4 (acc ++ [y4]) (xs ++ [v4]) := reps_app rs (reps_cons r4 reps_nil)
          obtain ⟨e5, p5⟩ := own_put et' hD ra
          refine ⟨xs, hD, by rw [← reps_len rs]; exact c4, m', lt, ρ4, μ4, acc ++ [y4], iv', e5, p5, ex.trans e24.ext, fun b u q f => ?_⟩
          have k := (st.trans (e24.stayM hd.sm)) b u q f
          rw [upd_ne]
          · exact k
          · intro z
            rw [z, hD] at k
            cases k
            exact f
end
section
variable {X : Cx} {W : WX} {elt tg iter : Expr} {ifs : List Expr} {scope : Scope} {own : List (Str × Nat)} {pos spos py : Pos} {fi : FI} {fp : FP} {t : FT} {f : FE} {ws : List Nat} {i : Nat} {y : Str}
theorem takes0 {X : Cx} : Takes X W0 := fun u s' ⟨a, B, sI, pins, σ, H, cls, d, e, I, nb, up, sky, na, os, ag, w⟩ => w.elim
theorem e_lc (hc : X.calm = true) (hN : X.N.Nodup) (hi : IF X W tg iter fi) (ok : BlkOk X.N X.env.scope scope own) (hv : ∀ j ∈ ws, j ∈ own.map (·.2))
    (hg : ∀ (s : Shared) (H : Hp) (C : Addr) (cl : List (Str × Addr)) (fq : List Addr), PtF (X.blk s H scope (compEnvC scope cl C X.env) fq) tg ws fp) (ht : ∀ (s : Shared) (H : Hp) (C : Addr) (cl : List (Str × Addr)) (fq : List Addr), TSF (X.blk s H scope (compEnvC scope cl C X.env) fq) W0 ifs t)
    (he : ∀ (s : Shared) (H : Hp) (C : Addr) (cl : List (Str × Addr)) (fq : List Addr), EF (X.blk s H scope (compEnvC scope cl C X.env) fq) W0 elt f) (hs : ∀ x, foldedSetIterable iter X.env x = pure x := by intro _; rfl) :
    EF X W (.ListComp elt [⟨tg, iter, ifs, 0⟩] scope pos) (eLc fi fp t f (own.map (·.2))) :=
  pe_imp (pe_lc (g := ptT X.K ws fp) (tt := liftT X.K W0 t) (te := liftE X.K W0 (eFrz f)) hc hN hi ok (fun s H C cl fq => (hg s H C cl fq).run) ht (fun s H C cl fq => e_frz (he s H C cl fq)) hs) fun σ H Q h =>
    lc_lift hv (hg {} (fun _ => none) 0 [] []).foot h
/-- a name of the def on the same line -/
theorem s_setLc (hc : X.calm = true) (hN : X.N.Nodup) (hi : IF X W tg iter fi) (ok : BlkOk X.N X.env.scope scope own) (hv : ∀ j ∈ ws, j ∈ own.map (·.2)) (hy : X.N[i]? = some y) (hyl : X.env.scope.names.lookup y = some .local)
    (hsw : swapsWith (.ListComp elt [⟨tg, iter, ifs, 0⟩] scope pos) (some (.Name y py)) spos.line X.env = pure true)
    (hg : ∀ (s : Shared) (H : Hp) (C : Addr) (cl : List (Str × Addr)) (fq : List Addr), PtF (X.blk s H scope (compEnvC scope cl C X.env) fq) tg ws fp) (ht : ∀ (s : Shared) (H : Hp) (C : Addr) (cl : List (Str × Addr)) (fq : List Addr), TSF (X.blk s H scope (compEnvC scope cl C X.env) fq) W0 ifs t)
    (he : ∀ (s : Shared) (H : Hp) (C : Addr) (cl : List (Str × Addr)) (fq : List Addr), EF (X.blk s H scope (compEnvC scope cl C X.env) fq) W0 elt f) (hs : ∀ x, foldedSetIterable iter X.env x = pure x := by intro _; rfl) :
    SF X W (.Assign [.Name y py] (.ListComp elt [⟨tg, iter, ifs, 0⟩] scope pos) spos) (fAsg (eLc fi fp t f (own.map (·.2))) (gNm i)) :=
  ps_imp (ps_setLc (g := ptT X.K ws fp) (tt := liftT X.K W0 t) (te := liftE X.K W0 (eFrz f)) hc hN hy hyl hsw hi ok (fun s H C cl fq => (hg s H C cl fq).run) ht (fun s H C cl fq => e_frz (he s H C cl fq)) hs) fun D σ H ⟨ρ, μ, δ, D', ho, c, k⟩ =>
    lc_lift (W := W) hv (hg {} (fun _ => none) 0 [] []).foot ⟨ρ, μ, δ, _, _, ho, c, fun p μ1 c1 ρ1 H1 v e1 r => by
      have ho1 := ho.after e1
      have eb := ho.evoB e1
      refine k.nx _ μ1 c1 ρ1 _ H1 (eb.less fun x => ?_) (ho1.ss.put r)
      have := footS_le δ i p x
      omega, k.xout ho⟩
end
end NT

/-! NT: raise, try .. except. -/
namespace NT
open PySem PySem.Spec PyProof.Rows L2

def fRaise (c : Addr) : FS := fun D δ μ => D.ex ⟨c, []⟩ δ μ
/-- how a clause 'except c' answers an exception -/
def exm (K : PySem.W.Frag) (c : Value) (x : EV) : Option Bool := PySem.W.exmOne K (.ref x.cls) c
/-- try, except c: the suite raises nothing -/
def fTry (K : PySem.W.Frag) (c : Value) (fb fs : FS) : FS := fun D δ μ => fb { D with ex := fun x δ' μ' => match exm K c x with
  | some true => fs { D with ex := fun _ _ _ => False } δ' μ'
  | some false => D.ex x δ' μ'
  | none => False } δ μ
section
variable {X : Cx} {W : WX} {pos : Pos}
theorem s_raise {C : Addr} {bmB : List Value} {B newId initId : String} {x m : Str} {j : Nat} {p p2 cpos : Pos} (hc : X.calm = true) (tk : Takes X W) (F : ExcBaseFacts B newId initId bmB) (q : PySem.W.excIn X.K C bmB newId = true) (gC : X.mg x = some (.ref C)) (kC : PySem.W.keepIn X.K (.ref C) = true)
    (r : Raises X (.ref C)) (hg : Gl X x := by rfl) (hdb : (x == ("__debug__" : Str)) = false := by decide) : SF X W (.Raise (some (.Call (.Name x p) [.Constant (.str m) j p2] [] cpos)) none pos) (fRaise C) :=
  ps_imp (ps_raise hc tk (pmk_own F q gC kC r hg hdb)) fun D σ H ⟨ρ, μ, δ, D', ho, c, k⟩ => k.ex ⟨C, []⟩ δ μ c ρ σ H (.ref C) none ho.reflS ho.ss ⟨rfl, .inl rfl⟩
theorem FDOk.noex {K : PySem.W.Frag} {W : WX} {ρ : List Addr} {μ : Mu} {δ : Sl} {H : Hp} {D' : FD} {D : Ends} (k : FDOk K W ρ μ δ H D' D) : FDOk K W0 ρ μ δ H { D' with ex := fun _ _ _ => False } D :=
  ⟨k.nx, k.bk, k.ct, k.rt, fun _ _ _ c => c.elim⟩
theorem s_try {x : Str} {c : Value} {body suite : List Stmt} {b₀ : Stmt} {np pos' : Pos} {fb fs : FS} (hs : X.stack = X.env :: X.outer) (hf : X.env.frame = some X.env.locals) (hc : Names X x c) (tk : Takes X W)
    (hb : ∀ (V : WX) (pn : List (Addr × Obj)) (xe : Value → Shared → Prop), Takes (X.tr pn xe) V → PassesOwn (model X.prog X.w) X.A X.env xe → BF (X.tr pn xe) V body fb)
    (hsu : ∀ (a : Addr) (oe : Obj) (pn : List (Addr × Obj)), BF (X.suite a ((a, oe) :: pn)) W0 (b₀ :: suite) fs) :
    SF X W (.Try body [.ExceptHandler (some (.Name x np)) none (b₀ :: suite) pos'] [] [] pos) (fTry X.K c fb fs) :=
  ps_imp (ps_try_only (tb := fun V => liftS X.K V fb) (ts := fun _ _ _ => liftS X.K W0 fs) hs hf hc tk hb fun a oe cls d pn _ _ => hsu a oe pn) fun D σ H ⟨ρ, μ, δ, D', ho, q, k⟩ =>
    ⟨ρ, μ, δ, _, ho, q, ⟨k.nx, k.bk, k.ct, k.rt, fun y δ' μ' q ρ' σ' H' cls d e s r => by
      obtain ⟨rfl, r2⟩ := id r
      dsimp only at q
      split at q
      · rename_i h
        exact ⟨true, h, fun _ a na => ⟨ρ', μ', δ', _, Hold.mk' e s, q, (k.after e).noex⟩, fun z => by cases z⟩
      · rename_i h
        exact ⟨false, h, fun z => (by cases z), fun _ => k.ex y δ' μ' q ρ' σ' H' _ d e s r⟩
      · exact q.elim⟩⟩
end
/-- how a class of the program answers a clause -/
theorem exm_of {K : PySem.W.Frag} {S T : Addr} {r : Bool} (hT : PySem.W.subIn K (.ref T) (.type "BaseException") = some true) (hC : PySem.W.isClsIn K T = true) (ty : PySem.W.typeIn K (.ref T) = some (.type "type")) (sub : PySem.W.subIn K (.ref S) (.ref T) = some r) :
    PySem.W.exmOne K (.ref S) (.ref T) = some r := by
  unfold PySem.W.exmOne
  rw [hT, if_pos (by rfl)]
  have cl : (PySem.W.clsIn K T).isSome = true := hC
  show (if ((PySem.W.clsIn K T).isSome && PySem.W.typeIn K (.ref T) == some (.type "type")) = true then PySem.W.subIn K (.ref S) (.ref T) else none) = some r
  rw [cl, ty, if_pos (by rfl), sub]
/-! ### x += n of ints -/
def intAddM : M2 := fun p q _ μ C => match p, q with
  | .val (.int i), .val (.int j) => C (.val (.int (i + j))) μ
  | _, _ => False
theorem br_intAdd {K : PySem.W.Frag} : Br2 K (rI0 fun i j => .int (i + j)) intAddM := by
  intro ρ μ δ σ H p q x y C Q ho rp rq ap c hC
  unfold intAddM at c
  split at c
  · exact ⟨_, _, pr_int rp, pr_int rq, hC _ _ c ρ H _ (ho.val fun _ => rfl) (by simp only [PR, Rep])⟩
  · exact c.elim
end NT

/-! NT: the end of a law row, from the law's denotation. -/
namespace NT
open PySem PySem.Spec PyProof.Rows L2

/-- THE RULE for a def, with what its calls and loops need of exceptions -/
theorem fnG_by {Pg : Program} {w : World} {K : PySem.W.Frag} {mg : Str → Option Value} {base : Heap} {k : Nat} {x qual : Str} {st : Stmt} {f : Addr} {fd : FuncData} {N ps : List Str} {b : FS} (Fu : Fun K x qual st f fd) (Sc : FnScope N ps (defScope st)) (hb : Binds K fd ps [])
    (hn : ps.length ≤ N.length)
    (body : ∀ (X : Cx) (W : WX) (cd : Value) (A : Around) (outer : List Env) (s : Shared) (H : Hp) (E : XK), X = cxOf (L2.CX Pg w) Pg w K mg base N qual (defScope st) f cd A outer s H E → W = (fun cls d _ H => E cls d H) → Room k X.A → X.A.guards = some [] → Takes X W → PassesOwn (model X.prog X.w) X.A X.env X.xe → BF X W (defBody st) b) :
    FnG Pg w K mg base (k + 1) f (fnDen ps.length N.length b) :=
  fnG_of Fu Sc hb hn fun cd A outer s H E room gu => body _ _ cd A outer s H E rfl rfl room gu (takes_of rfl rfl rfl rfl) (passes_of rfl)
/-- the law's own wish: true, and nothing raised -/
abbrev LawDen (g : FN) (ns : List Int) : Prop := g [.kls (ns.map D.int)] [] (fun p _ => p = .val (.bl true)) X0
theorem reps_ints {K : PySem.W.Frag} {ρ : List Addr} {H : Hp} : ∀ zs : List Int, Reps K ρ H (zs.map D.int) (zs.map V.int)
  | [] => reps_nil
  | z :: zs => reps_cons (by simp only [Rep]) (reps_ints zs)
/-- the heap in which the script alone is told, or nothing -/
def scriptH (K : PySem.W.Frag) (a : Addr) (vs : List Value) (zs : List Int) : Hp := fun b => if b = a ∧ K.lookup a = none then some (.frz { cls := .type "list", data := .seq vs.toArray } (.lst (zs.map V.int))) else none
section
variable {P : Program} {w : World} {K : PySem.W.Frag} {a : Addr} {vs : List Value} {zs : List Int} {h : Heap}
theorem scriptH_at {b : Addr} {u : HO} (e : scriptH K a vs zs b = some u) : b = a ∧ K.lookup a = none ∧ u = .frz { cls := .type "list", data := .seq vs.toArray } (.lst (zs.map V.int)) := by
  unfold scriptH at e
  split at e
  · rename_i q
    exact ⟨q.1, q.2, (Option.some.inj e).symm⟩
  · cases e
theorem scriptH_seq (kx : K.In h) (ho : h.get? a = some { cls := .type "list", data := .seq vs.toArray }) (hi : IntsAre vs zs) (sz : zs.length ≤ sizeLine) : SqF K (scriptH K a vs zs) a (zs.map V.int) := by
  cases q : K.lookup a with
  | none => exact .inl ⟨_, if_pos ⟨rfl, q⟩⟩
  | some o =>
    have t := kx a o q
    rw [ho] at t
    cases t
    have lv := hi.length
    exact .inr ⟨_, vs.toArray, _, q, rfl, rfl, rfl, by rw [List.size_toArray, lv]; exact sz, by simpa using vals_ints hi⟩
theorem scriptH_ok (ho : h.get? a = some { cls := .type "list", data := .seq vs.toArray }) (hi : IntsAre vs zs) (sz : zs.length ≤ sizeLine) : HOk P w (scriptH K a vs zs) h := fun b u e => by
  obtain ⟨rfl, _, rfl⟩ := scriptH_at e
  exact ⟨ho, by rw [List.length_map]; exact sz, vs, _, vals_ints hi, ho⟩
end
theorem nt_call {P : Program} {w : World} {K : PySem.W.Frag} {mg mb : Str → Option Value} {k : Nat} {fa a : Addr} {g : FN} {s₁ : Shared} {vs : List Value} {zs : List Int}
    (kx : K.In s₁.heap) (nsG : s₁.heap.Ns mainGlobals mg) (nsB : s₁.heap.Ns builtinsNs mb) (bb : ∀ y : Str, y ≠ "__name__" → mb y = bootBuiltins y) (lim : s₁.heap.NoLimit) (gens : s₁.gens = #[])
    (ho : s₁.heap.get? a = some { cls := .type "list", data := .seq vs.toArray }) (hi : IntsAre vs zs) (sz : zs.length ≤ sizeLine) (room : Room k callerA)
    (F : ∀ base : Heap, K.In base → base.Ns mainGlobals mg → FnG P w K mg base k fa g) (den : LawDen g zs) :
    codeAny (model P w) callerA (.call (.ref fa) ⟨[.ref a], []⟩) (fun r s' => r = .ok (.ret (.bool true)) ∧ OldK s₁.heap s'.heap ∧ s'.os = s₁.os ∧ AllBare s'.gens) s₁ := by
  have hok : HOk P w (scriptH K a vs zs) s₁.heap := scriptH_ok ho hi sz
  have sq := scriptH_seq kx ho hi sz
  -- whatever is no list of the script is of the base
  have low : ∀ {b : Addr} {o : Obj}, s₁.heap.get? b = some o → scriptH K a vs zs b = none → (hidT s₁.heap (scriptH K a vs zs)).get? b = some o := fun e n => hidT_get e n
  have noDict : ∀ {b : Addr} {o : Obj} {es : Array DictEntry} {ep : Nat}, s₁.heap.get? b = some o → o.data = .dict es ep → scriptH K a vs zs b = none := fun {b o es ep} e d => by
    cases q : scriptH K a vs zs b with
    | none => rfl
    | some u =>
      obtain ⟨rfl, _, _⟩ := scriptH_at q
      rw [ho] at e
      cases e
      cases (show Data.seq vs.toArray _ = Data.dict es ep from d)
  have nsLow : ∀ {b : Addr} {m : Str → Option Value}, s₁.heap.Ns b m → (hidT s₁.heap (scriptH K a vs zs)).Ns b m := fun {b m} ⟨o, es, ep, e, d, r⟩ => ⟨o, es, ep, low e (noDict e d), d, r⟩
  have kLow : K.In (hidT s₁.heap (scriptH K a vs zs)) := fun b o e => low (kx b o e) (by
    cases q : scriptH K a vs zs b with
    | none => rfl
    | some u =>
      obtain ⟨rfl, n, _⟩ := scriptH_at q
      rw [n] at e
      cases e)
  have modOk : Mod K mg (hidT s₁.heap (scriptH K a vs zs)) := ⟨kLow, nsLow nsG, ⟨mb, nsLow nsB, bb⟩, let ⟨mc, q1, q2⟩ := lim; ⟨mc, nsLow q1, q2⟩⟩
  have env : Env0 P w K mg (hidT s₁.heap (scriptH K a vs zs)) callerA [] s₁ (scriptH K a vs zs) :=
    { frames := rfl, mod := modOk, bs := fun b o e => of_hidT e, bsz := Nat.le_of_eq (hidT_size _ _), funs := trivial, frf := fun b hb => (by cases (show b ∈ ([] : List Addr) from hb)), hok := hok, bare := .of_eq gens }
  have sm : SM K [] [] (scriptH K a vs zs) := ⟨rfl, fun n o e => by simp at e⟩
  have sp : spOf K g [.ref a] (scriptH K a vs zs) (fun v _ => v = .bl true) fun _ _ _ => False := by
    refine ⟨[], [], [.kls (zs.map D.int)], _, _, sm, fun x => Nat.zero_le _, reps_cons ?_ reps_nil, den, fun p μ' c ρ' H' v _ r => ?_, fun _ _ c => c.elim⟩
    · simp only [Rep]
      exact ⟨a, _, rfl, sq, reps_ints zs⟩
    · subst c
      exact pr_bl r
  refine codeAny_mono ((F _ kLow (nsLow nsG)).run callerA [] s₁ (scriptH K a vs zs) [.ref a] [.ref a] (fun v _ => v = .bl true) (fun _ _ _ => False) room rfl env (.cons rfl .nil) sp) fun r s' q => ?_
  cases r with
  | error e =>
    obtain ⟨_, _, _, _, _, _, _, _, _, _, _, _, z⟩ := q
    exact z.elim
  | ok fl =>
    cases fl with
    | ret u =>
      obtain ⟨v, H', os, bare, un, hok', rv, hv⟩ := q
      subst hv
      obtain rfl : u = Value.bool true := rv
      refine ⟨rfl, OldK.of_keep fun b o e => ?_, os, bare⟩
      cases t : scriptH K a vs zs b with
      | none => exact un.keep b o e t (fun z => by cases (show b ∈ ([] : List Addr) from z)) (by simp)
      | some u =>
        obtain ⟨_, _, rfl⟩ := scriptH_at t
        have t2 := un.frzs b _ _ t
        obtain ⟨e1, _⟩ := hok b _ t
        obtain ⟨e2, _⟩ := hok' b _ t2
        rw [e] at e1
        cases e1
        exact e2
    | next => exact False.elim q
    | brk => exact False.elim q
    | cont => exact False.elim q
/-- the goal that the head leaves -/
theorem nt_walk {l : PySem.W.OpenLaw} {n k : Nat} {q : Program} {loose : List Str} {XP : (Str → Option Value) → Heap → Prop} {YP : World → Heap → Prop} {d : DefRec} {K : Params → PySem.W.Frag} {g : PySem.W.Frag → FN}
    (hn : l.most = some n) (hn2 : n ≤ sizeLine) (hdf : d.params.defaults = []) (room : Room k callerA) (hY : ∀ (w : World) (h : Heap), YP w h → (K w.params).In h)
    (F : ∀ (w : World) (mg : Str → Option Value) (fa : Addr) (h : Heap), (K w.params).In h → h.Ns mainGlobals mg → mg d.name = some (.ref fa) →
      (∀ base : Heap, (K w.params).In base → base.Ns mainGlobals mg → FnG l.prog w (K w.params) mg base k fa (g (K w.params))) ∧
      ∀ zs : List Int, zs.length ≤ n → (∀ z ∈ zs, Builtin.Int.intBits z ≤ 1048576) → LawDen (g (K w.params)) zs) :
    PySem.W.WalkO q loose XP YP l.row.toRowW d [] (fun f vs => PySem.call f vs) := by
  refine Att.attach_callB hn hdf fun w s₀ s₁ mg mb fa o pm cd doc a vs zs G Y ho hd hcd hmg obj isn len bits gens => ?_
  obtain ⟨f1, f2⟩ := F w mg fa _ (hY w _ Y) G.T.g hmg
  exact nt_call (hY w _ Y) G.T.g G.T.b G.T.builtins G.T.nolimit gens obj isn (Nat.le_trans len hn2) room f1 (f2 zs len bits)
/-- .. with the places of the text's things as a thing of its own -/
theorem nt_walkA {α : Type} (g : PySem.W.Frag → α → FN) (ad : α) {l : PySem.W.OpenLaw} {n k : Nat} {q : Program} {loose : List Str} {XP : (Str → Option Value) → Heap → Prop} {YP : World → Heap → Prop} {d : DefRec} {K : Params → PySem.W.Frag}
    (hn : l.most = some n) (hn2 : n ≤ sizeLine) (hdf : d.params.defaults = []) (room : Room k callerA) (hY : ∀ (w : World) (h : Heap), YP w h → (K w.params).In h)
    (F : ∀ (w : World) (mg : Str → Option Value) (fa : Addr) (h : Heap), (K w.params).In h → h.Ns mainGlobals mg → mg d.name = some (.ref fa) →
      (∀ base : Heap, (K w.params).In base → base.Ns mainGlobals mg → FnG l.prog w (K w.params) mg base k fa (g (K w.params) ad)) ∧
      ∀ zs : List Int, zs.length ≤ n → (∀ z ∈ zs, Builtin.Int.intBits z ≤ 1048576) → LawDen (g (K w.params) ad) zs) :
    PySem.W.WalkO q loose XP YP l.row.toRowW d [] (fun f vs => PySem.call f vs) := nt_walk (g := fun K => g K ad) hn hn2 hdf room hY F
end NT

/-! NT: words for the plain part of a law. -/
namespace NT
open PySem PySem.Spec PyProof.Rows L2

theorem feq (a b : Str) (h : decide (a = b) = false) : (a = b) = False := by simpa using h
theorem fbq (a b : Str) (h : decide (a = b) = false) : (a == b) = false := by simpa using h
theorem teq (a : Str) : (a = a) = True := by simp
/-- short things fit -/
theorem sz {n : Nat} (h : n ≤ 1000) : n ≤ sizeLine := Nat.le_trans h (by decide)
theorem szT {n : Nat} (h : n ≤ 1000) : (n ≤ sizeLine) = True := eq_true (sz h)
theorem sz0 : (0 ≤ sizeLine) = True := szT (by decide)
theorem sz1 : (1 ≤ sizeLine) = True := szT (by decide)
theorem sz2 : (2 ≤ sizeLine) = True := szT (by decide)
theorem sz3 : (3 ≤ sizeLine) = True := szT (by decide)
theorem sz4 : (4 ≤ sizeLine) = True := szT (by decide)
theorem sz5 : (5 ≤ sizeLine) = True := szT (by decide)
theorem sz6 : (6 ≤ sizeLine) = True := szT (by decide)
theorem sz7 : (7 ≤ sizeLine) = True := szT (by decide)
theorem sz8 : (8 ≤ sizeLine) = True := szT (by decide)
/-! ### plain data -/
theorem ok_int {n : Nat} {i : Int} : D.ok n (.int i) = true := by cases n <;> rfl
theorem ok_bl {n : Nat} {i : Bool} : D.ok n (.bl i) = true := by cases n <;> rfl
theorem ok_non {n : Nat} : D.ok n .non = true := by cases n <;> rfl
theorem ok_str {n : Nat} {s : Str} : D.ok n (.str s) = PyData.strOk s := by cases n <;> rfl
theorem ok_tup {n : Nat} {ds : List D} : D.ok (n + 1) (.tup ds) = ds.all (D.ok n) := rfl
theorem ok_lst {n : Nat} {ds : List D} : D.ok (n + 1) (.lst ds) = ds.all (D.ok n) := rfl
theorem eqb_int {i j : Int} : D.eqb (.int i) (.int j) = (i == j) := by simp only [D.eqb]
theorem eqb_bl {i j : Bool} : D.eqb (.bl i) (.bl j) = (i == j) := by simp only [D.eqb]
theorem repr_int {i : Int} (h : i.natAbs.log2 < 1920) : ReprOk (.int i) ∨ i.natAbs.log2 < 1920 := .inr h
/-! ### subscripts -/
section
variable {α : Type} {a b c d e f : α} {r : List α}
theorem at0 : atI (a :: r) 0 = some a := atI_nat (j := 0) rfl
theorem at1 : atI (a :: b :: r) 1 = some b := atI_nat (j := 1) rfl
theorem at2 : atI (a :: b :: c :: r) 2 = some c := atI_nat (j := 2) rfl
theorem at3 : atI (a :: b :: c :: d :: r) 3 = some d := atI_nat (j := 3) rfl
theorem at4 : atI (a :: b :: c :: d :: e :: r) 4 = some e := atI_nat (j := 4) rfl
theorem at5 : atI (a :: b :: c :: d :: e :: f :: r) 5 = some f := atI_nat (j := 5) rfl
theorem at_of {xs : List α} {i : Int} (h1 : 0 ≤ i) (h2 : i < xs.length) : ∃ v, atI xs i = some v ∧ xs[i.toNat]? = some v := by
  have lt : i.toNat < xs.length := by omega
  refine ⟨xs[i.toNat], ?_, by simp [lt]⟩
  have := atI_nat (xs := xs) (j := i.toNat) (v := xs[i.toNat]) (by simp [lt])
  rwa [Int.toNat_of_nonneg h1] at this
end
theorem ix4_1 : ixN 4 1 = some 1 := by decide
theorem ix4_2 : ixN 4 2 = some 2 := by decide
theorem ix4_3 : ixN 4 3 = some 3 := by decide
/-! ### the operators where both sides are known -/
section
variable {δ : Sl} {μ : Mu} {C : P → Mu → Prop} {i j : Int} {x y : Bool} {s t : Str} {xs ys : List D} {a b : Addr} {pl ql : Pl} {n m : Nat} {neg : Bool}
theorem addM_i : addM (.val (.int i)) (.val (.int j)) δ μ C = C (.val (.int (i + j))) μ := rfl
theorem addM_s : addM (.val (.str s)) (.val (.str t)) δ μ C = (s.length + t.length ≤ sizeLine ∧ C (.val (.str (s ++ t))) μ) := rfl
theorem addM_t : addM (.val (.tup xs)) (.val (.tup ys)) δ μ C = (xs.length + ys.length ≤ sizeLine ∧ C (.val (.tup (xs ++ ys))) μ) := rfl
theorem addM_oo : addM (.own a xs) (.own b ys) δ μ C = (xs.length + ys.length ≤ sizeLine ∧ ∀ c, C (.own c (xs ++ ys)) μ) := rfl
theorem addM_bo : addM (.bor a pl) (.own b ys) δ μ C = (match lget δ μ (.bor a pl) with | some xs => xs.length + ys.length ≤ sizeLine ∧ ∀ c, C (.own c (xs ++ ys)) μ | none => False) := by
  show (match lget δ μ (.bor a pl), some ys with | some xs, some ys => xs.length + ys.length ≤ sizeLine ∧ ∀ c, C (.own c (xs ++ ys)) μ | _, _ => False) = _
  cases lget δ μ (.bor a pl) <;> rfl
theorem addM_ob : addM (.own a xs) (.bor b ql) δ μ C = (match lget δ μ (.bor b ql) with | some ys => xs.length + ys.length ≤ sizeLine ∧ ∀ c, C (.own c (xs ++ ys)) μ | none => False) := by
  show (match some xs, lget δ μ (.bor b ql) with | some xs, some ys => xs.length + ys.length ≤ sizeLine ∧ ∀ c, C (.own c (xs ++ ys)) μ | _, _ => False) = _
  cases lget δ μ (.bor b ql) <;> rfl
theorem addM_lo : addM (.val (.lst xs)) (.own b ys) δ μ C = (xs.length + ys.length ≤ sizeLine ∧ ∀ c, C (.own c (xs ++ ys)) μ) := rfl
theorem addM_ol : addM (.own b xs) (.val (.lst ys)) δ μ C = (xs.length + ys.length ≤ sizeLine ∧ ∀ c, C (.own c (xs ++ ys)) μ) := rfl
theorem addM_ll : addM (.val (.lst xs)) (.val (.lst ys)) δ μ C = (xs.length + ys.length ≤ sizeLine ∧ ∀ c, C (.own c (xs ++ ys)) μ) := rfl
theorem subM_i : subM (.val (.int i)) (.val (.int j)) δ μ C = C (.val (.int (i - j))) μ := rfl
theorem mulM_i : mulM (.val (.int i)) (.val (.int j)) δ μ C = (MulOk i j ∧ C (.val (.int (i * j))) μ) := rfl
theorem mulM_o : mulM (.own a xs) (.val (.int j)) δ μ C = ((-(2 ^ 63) ≤ j ∧ j < 2 ^ 63 ∧ xs.length * j.toNat ≤ sizeLine) ∧ ∀ b, C (.own b (List.replicate j.toNat xs).flatten) μ) := rfl
theorem fdivM_i : fdivM (.val (.int i)) (.val (.int j)) δ μ C = (DivOk j ∧ C (.val (.int (i / j))) μ) := rfl
theorem modM_i : modM (.val (.int i)) (.val (.int j)) δ μ C = (0 < j ∧ C (.val (.int (i % j))) μ) := rfl
theorem intAddM_i : intAddM (.val (.int i)) (.val (.int j)) δ μ C = C (.val (.int (i + j))) μ := rfl
theorem cmpM_i {g : Int → Int → Bool} : cmpM g (.val (.int i)) (.val (.int j)) δ μ C = C (.val (.bl (g i j))) μ := rfl
theorem min2M_i : min2M (.val (.int i)) (.val (.int j)) δ μ C = C (.val (.int (if j < i then j else i))) μ := rfl
theorem max2M_i : max2M (.val (.int i)) (.val (.int j)) δ μ C = C (.val (.int (if j > i then j else i))) μ := rfl
theorem negM_i : negM (.val (.int i)) δ μ C = C (.val (.int (-i))) μ := rfl
theorem absM_i : absM (.val (.int i)) δ μ C = C (.val (.int (if i < 0 then -i else i))) μ := rfl
theorem toIntM_i : toIntM (.val (.int i)) δ μ C = C (.val (.int i)) μ := rfl
theorem isnM_any {p : P} : isnM neg p (.val .non) δ μ C = C (.val (.bl (if neg then !isN p else isN p))) μ := rfl
theorem eqM_i : eqM neg (.val (.int i)) (.val (.int j)) δ μ C = C (.val (.bl (if neg then !(i == j) else i == j))) μ := by
  show ((D.ok 64 (.int i) = true ∧ D.ok 64 (.int j) = true) ∧ C (.val (.bl (if neg then !(D.eqb (.int i) (.int j)) else D.eqb (.int i) (.int j)))) μ) = _
  simp only [ok_int, eqb_int, and_self, true_and]
theorem eqM_b : eqM neg (.val (.bl x)) (.val (.bl y)) δ μ C = C (.val (.bl (if neg then !(x == y) else x == y))) μ := by
  show ((D.ok 64 (.bl x) = true ∧ D.ok 64 (.bl y) = true) ∧ C (.val (.bl (if neg then !(D.eqb (.bl x) (.bl y)) else D.eqb (.bl x) (.bl y)))) μ) = _
  simp only [ok_bl, eqb_bl, and_self, true_and]
theorem eqM_s : eqM neg (.val (.str s)) (.val (.str t)) δ μ C = C (.val (.bl (if neg then !(s == t) else s == t))) μ := rfl
theorem eqM_t : eqM neg (.val (.tup xs)) (.val (.tup ys)) δ μ C = (((D.tup xs).ok 64 = true ∧ (D.tup ys).ok 64 = true) ∧ C (.val (.bl (if neg then !(D.eqb (.tup xs) (.tup ys)) else D.eqb (.tup xs) (.tup ys)))) μ) := rfl
theorem ixM_t : ixM (.val (.tup xs)) (.val (.int i)) δ μ C = (match atI xs i with | some d => C (.val d) μ | none => False) := rfl
theorem ixM_o : ixM (.own a xs) (.val (.int i)) δ μ C = (match atI xs i with | some d => C (.val d) μ | none => False) := rfl
theorem ixM_l : ixM (.val (.lst xs)) (.val (.int i)) δ μ C = (match atI xs i with | some d => C (.val d) μ | none => False) := rfl
theorem ixM_k : ixM (.val (.kls xs)) (.val (.int i)) δ μ C = (match atI xs i with | some d => C (.val d) μ | none => False) := rfl
theorem ixM_r : ixM (.val (.ref n)) (.val (.int i)) δ μ C = (match lget δ μ (.val (.ref n)) with | some ds => (match atI ds i with | some d => C (.val d) μ | none => False) | none => False) := rfl
theorem ixM_b : ixM (.bor a pl) (.val (.int i)) δ μ C = (match lget δ μ (.bor a pl) with | some ds => (match atI ds i with | some d => C (.val d) μ | none => False) | none => False) := rfl
theorem truM_b {R : Bool → Prop} : truM (.val (.bl x)) δ μ R = R x := rfl
theorem truM_i {R : Bool → Prop} : truM (.val (.int i)) δ μ R = R (i != 0) := rfl
theorem truM_n {R : Bool → Prop} : truM (.val .non) δ μ R = R false := rfl
theorem truM_t {R : Bool → Prop} : truM (.val (.tup xs)) δ μ R = R (!xs.isEmpty) := rfl
theorem truM_o {R : Bool → Prop} : truM (.own a xs) δ μ R = R (!xs.isEmpty) := rfl
theorem truM_bo {R : Bool → Prop} (h : lget δ μ (.bor a pl) = some xs) : truM (.bor a pl) δ μ R = R (!xs.isEmpty) := by
  unfold truM
  simp only [h]
end
/-! ### loops -/
section
variable {g : FG} {b : FS} {D' : FD} {δ : Sl} {μ : Mu}
/-- what a loop asks when its iterator has come -/
def LoopIs (it : ItD) (g : FG) (b : FS) (D : FD) (δ : Sl) (μ1 : Mu) : Prop := ∃ Iv : Nat → Nat → Sl → Mu → Prop, (∃ m, Iv 0 m δ μ1) ∧ ∀ i m δ' μ', Iv i m δ' μ' → (it.stop i δ' μ' ∧ D.nx δ' μ') ∨
  ∃ d, it.item i δ' μ' d ∧ g (.val d) δ' μ' (fun δ2 μ2 => b { D with nx := fun δ3 μ3 => ∃ m', m' < m ∧ Iv (i + 1) m' δ3 μ3, ct := fun δ3 μ3 => ∃ m', m' < m ∧ Iv (i + 1) m' δ3 μ3, bk := D.nx } δ2 μ2) D.ex
theorem fFor_eq {fi : FI} : fFor fi g b D' δ μ = fi δ μ (fun it μ1 => LoopIs it g b D' δ μ1) (fun x μ1 => D'.ex x δ μ1) := rfl
/-- n turns -/
theorem loop_n {it : ItD} (n : Nat) (I : Nat → Sl → Mu → Prop) (h0 : I 0 δ μ)
    (hs : ∀ i δ' μ', i < n → I i δ' μ' → ∃ d, it.item i δ' μ' d ∧ g (.val d) δ' μ' (fun δ2 μ2 => b { D' with nx := I (i + 1), ct := I (i + 1), bk := D'.nx } δ2 μ2) D'.ex) (he : ∀ δ' μ', I n δ' μ' → it.stop n δ' μ' ∧ D'.nx δ' μ') : LoopIs it g b D' δ μ := by
  refine ⟨fun i m δ' μ' => m = n - i ∧ i ≤ n ∧ I i δ' μ', ⟨n, by simp, Nat.zero_le _, h0⟩, fun i m δ' μ' ⟨e, hi, iv⟩ => ?_⟩
  subst e
  by_cases lt : i < n
  · obtain ⟨d, h1, h2⟩ := hs i δ' μ' lt iv
    refine .inr ⟨d, h1, ?_⟩
    have z : (fun (δ3 : Sl) (μ3 : Mu) => ∃ m', m' < n - i ∧ (m' = n - (i + 1) ∧ i + 1 ≤ n ∧ I (i + 1) δ3 μ3)) = I (i + 1) := by
      funext δ3 μ3
      exact propext ⟨fun ⟨m', _, _, _, h⟩ => h, fun h => ⟨n - (i + 1), by omega, rfl, lt, h⟩⟩
    rw [z]
    exact h2
  · have e : i = n := by omega
    subst e
    exact .inl (he δ' μ' iv)
theorem loop_rng {lo : Int} {n : Nat} (I : Nat → Sl → Mu → Prop) (h0 : I 0 δ μ)
    (hs : ∀ i δ' μ', i < n → I i δ' μ' → g (.val (.int (lo + (i : Int)))) δ' μ' (fun δ2 μ2 => b { D' with nx := I (i + 1), ct := I (i + 1), bk := D'.nx } δ2 μ2) D'.ex) (he : ∀ δ' μ', I n δ' μ' → D'.nx δ' μ') : LoopIs (rngD lo n) g b D' δ μ :=
  loop_n n I h0 (fun i δ' μ' lt iv => ⟨_, ⟨lt, rfl⟩, hs i δ' μ' lt iv⟩) fun δ' μ' iv => ⟨Nat.le_refl _, he δ' μ' iv⟩
theorem loop_fix {ds : List D} (I : Nat → Sl → Mu → Prop) (h0 : I 0 δ μ)
    (hs : ∀ i δ' μ' d, ds[i]? = some d → I i δ' μ' → g (.val d) δ' μ' (fun δ2 μ2 => b { D' with nx := I (i + 1), ct := I (i + 1), bk := D'.nx } δ2 μ2) D'.ex) (he : ∀ δ' μ', I ds.length δ' μ' → D'.nx δ' μ') : LoopIs (fixD ds) g b D' δ μ :=
  loop_n ds.length I h0 (fun i δ' μ' lt iv => ⟨ds[i], by show ds[i]? = some ds[i]; simp [lt], hs i δ' μ' ds[i] (by simp [lt]) iv⟩) fun δ' μ' iv => ⟨Nat.le_refl _, he δ' μ' iv⟩
/-- a live list whose length stays -/
theorem loop_liv {p : P} (n : Nat) (I : Nat → Sl → Mu → Prop) (h0 : I 0 δ μ) (hl : ∀ i δ' μ', I i δ' μ' → ∃ ds, lget δ' μ' p = some ds ∧ ds.length = n)
    (hs : ∀ i δ' μ' ds d, lget δ' μ' p = some ds → ds[i]? = some d → I i δ' μ' → g (.val d) δ' μ' (fun δ2 μ2 => b { D' with nx := I (i + 1), ct := I (i + 1), bk := D'.nx } δ2 μ2) D'.ex) (he : ∀ δ' μ', I n δ' μ' → D'.nx δ' μ') : LoopIs (livD p) g b D' δ μ :=
  loop_n n I h0 (fun i δ' μ' lt iv => by
    obtain ⟨ds, h1, h2⟩ := hl i δ' μ' iv
    have lt' : i < ds.length := by omega
    exact ⟨ds[i], ⟨ds, h1, by simp [lt']⟩, hs i δ' μ' ds ds[i] h1 (by simp [lt']) iv⟩) fun δ' μ' iv => by
    obtain ⟨ds, h1, h2⟩ := hl n δ' μ' iv
    exact ⟨⟨ds, h1, by omega⟩, he δ' μ' iv⟩
/-- a loop without a count: a measure -/
theorem loop_while {t : FT} (I : Nat → Sl → Mu → Prop) (m0 : Nat) (h0 : I m0 δ μ)
    (hs : ∀ m δ' μ', I m δ' μ' → t δ' μ' (fun k μ1 => if k = true then b { D' with nx := fun δ3 μ3 => ∃ m', m' < m ∧ I m' δ3 μ3, ct := fun δ3 μ3 => ∃ m', m' < m ∧ I m' δ3 μ3, bk := D'.nx } δ' μ1 else D'.nx δ' μ1) (fun x μ1 => D'.ex x δ' μ1)) : fWhile t b D' δ μ := ⟨I, ⟨m0, h0⟩, hs⟩
end
/-! ### comprehensions -/
section
variable {fp : FP} {t : FT} {f : FE} {vs : List Nat} {C : P → Mu → Prop} {δ : Sl} {μ : Mu}
def LcIs (it : ItD) (fp : FP) (t : FT) (f : FE) (vs : List Nat) (C : P → Mu → Prop) (δ : Sl) (μ1 : Mu) : Prop := ∃ Iv : Nat → Nat → List D → Mu → Prop, (∃ m, Iv 0 m [] μ1) ∧ ∀ i m acc μ', Iv i m acc μ' → (it.stop i (wipeD δ vs) μ' ∧ ∀ a, C (.own a acc) μ') ∨
  ∃ d δ2, it.item i (wipeD δ vs) μ' d ∧ fp (wipeD δ vs) d = some δ2 ∧ acc.length < sizeLine ∧ t δ2 μ' (fun b μ2 => if b = true then f δ2 μ2 (fun p μ3 => asD p fun y => ∃ m', m' < m ∧ Iv (i + 1) m' (acc ++ [y]) μ3) X0 else ∃ m', m' < m ∧ Iv (i + 1) m' acc μ2) X0
theorem eLc_eq {fi : FI} {E : CX} : eLc fi fp t f vs δ μ C E = fi δ μ (fun it μ1 => LcIs it fp t f vs C δ μ1) E := rfl
/-- item by item, the store as it is: what each item gives, if anything -/
theorem lc_pure {it : ItD} (n : Nat) (xs : Nat → D) (F : D → Option D) (hn : n ≤ sizeLine) (hi : ∀ i, i < n → it.item i (wipeD δ vs) μ (xs i)) (hstop : it.stop n (wipeD δ vs) μ)
    (hs : ∀ i, i < n → ∃ δ2, fp (wipeD δ vs) (xs i) = some δ2 ∧ ∀ R : Option D → Prop, R (F (xs i)) → t δ2 μ (fun b μ2 => if b = true then f δ2 μ2 (fun p μ3 => asD p fun y => μ3 = μ ∧ R (some y)) X0 else μ2 = μ ∧ R none) X0)
    (hC : ∀ a, C (.own a ((List.range n).filterMap fun i => F (xs i))) μ) : LcIs it fp t f vs C δ μ := by
  refine ⟨fun i m acc μ' => m = n - i ∧ i ≤ n ∧ acc = ((List.range i).filterMap fun i => F (xs i)) ∧ μ' = μ, ⟨n, by simp⟩, fun i m acc μ' ⟨e1, e2, e3, e4⟩ => ?_⟩
  subst e1 e3 e4
  by_cases lt : i < n
  · obtain ⟨δ2, h1, h2⟩ := hs i lt
    have len : ((List.range i).filterMap fun i => F (xs i)).length < sizeLine := by
      have := List.length_filterMap_le (fun i => F (xs i)) (List.range i)
      rw [List.length_range] at this
      omega
    refine .inr ⟨xs i, δ2, hi i lt, h1, len, ?_⟩
    have step := h2 (fun o => o = F (xs i)) rfl
    -- the goal's continuations are these
    have z1 : (fun (b : Bool) (μ2 : Mu) => if b = true then f δ2 μ2 (fun p μ3 => asD p fun y => ∃ m', m' < n - i ∧ (m' = n - (i + 1) ∧ i + 1 ≤ n ∧ ((List.range i).filterMap fun i => F (xs i)) ++ [y] = ((List.range (i + 1)).filterMap fun i => F (xs i)) ∧ μ3 = μ')) X0
        else ∃ m', m' < n - i ∧ (m' = n - (i + 1) ∧ i + 1 ≤ n ∧ ((List.range i).filterMap fun i => F (xs i)) = ((List.range (i + 1)).filterMap fun i => F (xs i)) ∧ μ2 = μ')) =
        fun (b : Bool) (μ2 : Mu) => if b = true then f δ2 μ2 (fun p μ3 => asD p fun y => μ3 = μ' ∧ some y = F (xs i)) X0 else μ2 = μ' ∧ none = F (xs i) := by
      have app : ((List.range (i + 1)).filterMap fun i => F (xs i)) = ((List.range i).filterMap fun i => F (xs i)) ++ (F (xs i)).toList := by
        rw [List.range_succ, List.filterMap_append]
        congr 1
      have q1 : ∀ y : D, ((List.range i).filterMap fun i => F (xs i)) ++ [y] = ((List.range (i + 1)).filterMap fun i => F (xs i)) ↔ some y = F (xs i) := fun y => by
        rw [app, List.append_cancel_left_eq]
        cases F (xs i) <;> simp
      have q2 : ((List.range i).filterMap fun i => F (xs i)) = ((List.range (i + 1)).filterMap fun i => F (xs i)) ↔ none = F (xs i) := by
        rw [app]
        cases F (xs i) <;> simp
      funext b μ2
      congr 1
      · congr 1
        funext p μ3
        congr 1
        funext y
        exact propext ⟨fun ⟨m', _, _, _, h1, h2⟩ => ⟨h2, (q1 y).mp h1⟩, fun ⟨h1, h2⟩ => ⟨n - (i + 1), by omega, rfl, lt, (q1 y).mpr h2, h1⟩⟩
      · exact propext ⟨fun ⟨m', _, _, _, h1, h2⟩ => ⟨h2, q2.mp h1⟩, fun ⟨h1, h2⟩ => ⟨n - (i + 1), by omega, rfl, lt, q2.mpr h2, h1⟩⟩
    rw [z1]
    exact step
  · have e : i = n := by omega
    subst e
    exact .inl ⟨hstop, hC⟩
theorem fm_range {ds : List D} (F : D → Option D) : ((List.range ds.length).filterMap fun i => F (ds.getD i .non)) = ds.filterMap F := by
  have h : ds = (List.range ds.length).map fun i => ds.getD i .non := by
    apply List.ext_getElem
    · simp
    · intro i h1 h2
      simp [List.getD, h1]
  conv => rhs; rw [h]
  rw [List.filterMap_map]
  rfl
/-- over a list that is never written -/
theorem lc_fix {ds : List D} (F : D → Option D) (hn : ds.length ≤ sizeLine)
    (hs : ∀ d ∈ ds, ∃ δ2, fp (wipeD δ vs) d = some δ2 ∧ ∀ R : Option D → Prop, R (F d) → t δ2 μ (fun b μ2 => if b = true then f δ2 μ2 (fun p μ3 => asD p fun y => μ3 = μ ∧ R (some y)) X0 else μ2 = μ ∧ R none) X0)
    (hC : ∀ a, C (.own a (ds.filterMap F)) μ) : LcIs (fixD ds) fp t f vs C δ μ :=
  lc_pure ds.length (fun i => ds.getD i .non) F hn (fun i lt => by show ds[i]? = some (ds.getD i .non); simp [List.getD, lt]) (Nat.le_refl _) (fun i lt => hs _ (by simp [List.getD, lt])) (by rw [fm_range]; exact hC)
theorem lc_rng {lo : Int} {n : Nat} (F : D → Option D) (hn : n ≤ sizeLine)
    (hs : ∀ i, i < n → ∃ δ2, fp (wipeD δ vs) (.int (lo + (i : Int))) = some δ2 ∧ ∀ R : Option D → Prop, R (F (.int (lo + (i : Int)))) → t δ2 μ (fun b μ2 => if b = true then f δ2 μ2 (fun p μ3 => asD p fun y => μ3 = μ ∧ R (some y)) X0 else μ2 = μ ∧ R none) X0)
    (hC : ∀ a, C (.own a ((List.range n).filterMap fun (i : Nat) => F (.int (lo + (i : Int))))) μ) : LcIs (rngD lo n) fp t f vs C δ μ :=
  lc_pure n (fun i => .int (lo + (i : Int))) F hn (fun i lt => ⟨lt, rfl⟩) (Nat.le_refl _) hs hC
/-- over a live list -/
theorem lc_liv {p : P} {ds : List D} (F : D → Option D) (hn : ds.length ≤ sizeLine) (hl : lget (wipeD δ vs) μ p = some ds)
    (hs : ∀ d ∈ ds, ∃ δ2, fp (wipeD δ vs) d = some δ2 ∧ ∀ R : Option D → Prop, R (F d) → t δ2 μ (fun b μ2 => if b = true then f δ2 μ2 (fun p μ3 => asD p fun y => μ3 = μ ∧ R (some y)) X0 else μ2 = μ ∧ R none) X0)
    (hC : ∀ a, C (.own a (ds.filterMap F)) μ) : LcIs (livD p) fp t f vs C δ μ :=
  lc_pure ds.length (fun i => ds.getD i .non) F hn (fun i lt => ⟨ds, hl, by simp [List.getD, lt]⟩) ⟨ds, hl, Nat.le_refl _⟩ (fun i lt => hs _ (by simp [List.getD, lt])) (by rw [fm_range]; exact hC)
end
end NT

/-! NT: the laws' own draws. -/
namespace NT
open PySem PySem.Spec PyProof.Rows L2

/-- a draw: its cells, the place, what is left, the seed -/
def DrawL (ds : List D) : Prop := ∃ (cells : List Int) (i v s : Int), ds = [.lst (cells.map D.int), .int i, .int v, .int s] ∧ -1 ≤ i
def bDraw : FS := fCons (fAsg (eVal (.int 7)) (gNm 1)) (fCons (fFor (iSeq (eVar 0)) (gNm 2) (fAsg (eOp2 modM (eOp1 toIntM (eOp2 addM (eOp2 addM (eOp2 mulM (eVar 1) (eVal (.int 48271))) (eOp2 modM (eOp1 absM (eOp1 toIntM (eVar 2))) (eVal (.int 65521)))) (eVal (.int 1)))) (eVal (.int 2147483647))) (gNm 1))) (fRet (eNew (aCons (eLc (iSeq (eVar 0)) (pNm 2) (tYesD) (eOp1 absM (eOp1 toIntM (eVar 2))) [2]) (aCons (eOp1 negM (eVal (.int 1))) (aCons (eVal (.int 0)) (aCons (eVar 1) (aNil))))))))
def absI (d : D) : Option D := match d with
  | .int i => some (.int (if i < 0 then -i else i))
  | _ => none
theorem abs_map : ∀ zs : List Int, (zs.map D.int).filterMap absI = (zs.map fun z => if z < 0 then -z else z).map D.int
  | [] => rfl
  | z :: r => by simp [absI, abs_map r]
theorem den_draw {zs : List Int} {μ : Mu} {C : P → Mu → Prop} {E : CX} (hz : zs.length ≤ 1000) (hC : ∀ ds, DrawL ds → C (.val (.ref μ.length)) (μ ++ [.lst ds])) : fnDen 1 3 bDraw [.kls (zs.map D.int)] μ C E := by
  refine ⟨rfl, fCons.go ?_⟩
  simp only [fAsg, fPar, fPar2, fPar3, fIfS, fRet, fRetN, fDrop, fNil, fBreak, fCont, fAugN, fAugF, fApp, fRaise, mvL, moved, eVar, eVal, eOp2, eOp1, eTup, eLst, eNew, eIf, eAnd2, eOr2, eNot1, eFrz, asD, asB, eFld, eCall, eMake, eMeth, eSl, oNone, oSome, aNil, aCons, lNil, lCons, gNm, gFd, gIx, gTp, gsNil, gsCons, tTru, tBool, tAnd2, tOr2, tNot1, tYesD, addM_i, addM_s, addM_t, addM_oo, addM_bo, addM_ob, addM_lo, addM_ol, addM_ll, subM_i, mulM_i, mulM_o, fdivM_i, modM_i, intAddM_i, cmpM_i, min2M_i, max2M_i, negM_i, absM_i, toIntM_i, isnM_any, isN, eqM_i, eqM_b, eqM_s, eqM_t, ixM_t, ixM_o, ixM_l, ixM_k, ixM_r, ixM_b, truM_b, truM_i, truM_n, truM_t, truM_o, lenM, sumM, tupM, listM, slM, lget, lgetR, lput, iRng1D, iRng2D, iSeq, itOf, List.map_cons, List.map_nil, List.replicate_zero, List.replicate_succ, List.cons_append, List.nil_append, List.append_nil, List.getElem?_cons_succ, List.getElem?_cons_zero, List.set_cons_zero, List.set_cons_succ, List.length_cons, List.length_nil, Nat.reduceAdd, Nat.reduceSub, Nat.reduceLT, Nat.reduceLeDiff, Nat.sub_self, decide_eq_true_eq, sz0, sz1, sz2, sz3, sz4, sz5, sz6, sz7, sz8, ok_int, ok_bl, ok_non, ok_tup, ok_lst, eqb_int, eqb_bl, at0, at1, at2, at3, at4, at5, beq_iff_eq, ite_true, ite_false, Bool.false_eq_true, if_true, if_false, true_and, and_true, false_and, Bool.not_true, Bool.not_false]
  refine fCons.go ?_
  rw [fFor_eq]
  simp only [fAsg, fPar, fPar2, fPar3, fIfS, fRet, fRetN, fDrop, fNil, fBreak, fCont, fAugN, fAugF, fApp, fRaise, mvL, moved, eVar, eVal, eOp2, eOp1, eTup, eLst, eNew, eIf, eAnd2, eOr2, eNot1, eFrz, asD, asB, eFld, eCall, eMake, eMeth, eSl, oNone, oSome, aNil, aCons, lNil, lCons, gNm, gFd, gIx, gTp, gsNil, gsCons, tTru, tBool, tAnd2, tOr2, tNot1, tYesD, addM_i, addM_s, addM_t, addM_oo, addM_bo, addM_ob, addM_lo, addM_ol, addM_ll, subM_i, mulM_i, mulM_o, fdivM_i, modM_i, intAddM_i, cmpM_i, min2M_i, max2M_i, negM_i, absM_i, toIntM_i, isnM_any, isN, eqM_i, eqM_b, eqM_s, eqM_t, ixM_t, ixM_o, ixM_l, ixM_k, ixM_r, ixM_b, truM_b, truM_i, truM_n, truM_t, truM_o, lenM, sumM, tupM, listM, slM, lget, lgetR, lput, iRng1D, iRng2D, iSeq, itOf, List.map_cons, List.map_nil, List.replicate_zero, List.replicate_succ, List.cons_append, List.nil_append, List.append_nil, List.getElem?_cons_succ, List.getElem?_cons_zero, List.set_cons_zero, List.set_cons_succ, List.length_cons, List.length_nil, Nat.reduceAdd, Nat.reduceSub, Nat.reduceLT, Nat.reduceLeDiff, Nat.sub_self, decide_eq_true_eq, sz0, sz1, sz2, sz3, sz4, sz5, sz6, sz7, sz8, ok_int, ok_bl, ok_non, ok_tup, ok_lst, eqb_int, eqb_bl, at0, at1, at2, at3, at4, at5, beq_iff_eq, ite_true, ite_false, Bool.false_eq_true, if_true, if_false, true_and, and_true, false_and, Bool.not_true, Bool.not_false]
  refine loop_fix (fun i δ' μ' => ∃ s y, δ' = [some (.val (.kls (zs.map D.int))), some (.val (.int s)), y] ∧ μ' = μ) ⟨7, _, rfl, rfl⟩ ?_ ?_
  · rintro i δ' μ' d hd ⟨s, y, rfl, rfl⟩
    rw [List.getElem?_map] at hd
    cases q : zs[i]? with
    | none => rw [q] at hd; cases hd
    | some z =>
      rw [q] at hd
      cases hd
      simp only [fAsg, fPar, fPar2, fPar3, fIfS, fRet, fRetN, fDrop, fNil, fBreak, fCont, fAugN, fAugF, fApp, fRaise, mvL, moved, eVar, eVal, eOp2, eOp1, eTup, eLst, eNew, eIf, eAnd2, eOr2, eNot1, eFrz, asD, asB, eFld, eCall, eMake, eMeth, eSl, oNone, oSome, aNil, aCons, lNil, lCons, gNm, gFd, gIx, gTp, gsNil, gsCons, tTru, tBool, tAnd2, tOr2, tNot1, tYesD, addM_i, addM_s, addM_t, addM_oo, addM_bo, addM_ob, addM_lo, addM_ol, addM_ll, subM_i, mulM_i, mulM_o, fdivM_i, modM_i, intAddM_i, cmpM_i, min2M_i, max2M_i, negM_i, absM_i, toIntM_i, isnM_any, isN, eqM_i, eqM_b, eqM_s, eqM_t, ixM_t, ixM_o, ixM_l, ixM_k, ixM_r, ixM_b, truM_b, truM_i, truM_n, truM_t, truM_o, lenM, sumM, tupM, listM, slM, lget, lgetR, lput, iRng1D, iRng2D, iSeq, itOf, List.map_cons, List.map_nil, List.replicate_zero, List.replicate_succ, List.cons_append, List.nil_append, List.append_nil, List.getElem?_cons_succ, List.getElem?_cons_zero, List.set_cons_zero, List.set_cons_succ, List.length_cons, List.length_nil, Nat.reduceAdd, Nat.reduceSub, Nat.reduceLT, Nat.reduceLeDiff, Nat.sub_self, decide_eq_true_eq, sz0, sz1, sz2, sz3, sz4, sz5, sz6, sz7, sz8, ok_int, ok_bl, ok_non, ok_tup, ok_lst, eqb_int, eqb_bl, at0, at1, at2, at3, at4, at5, beq_iff_eq, ite_true, ite_false, Bool.false_eq_true, if_true, if_false, true_and, and_true, false_and, Bool.not_true, Bool.not_false]
      exact ⟨mulOk_r (by decide) (by decide), by decide, by decide, _, _, rfl⟩
  · rintro δ' μ' ⟨s, y, rfl, rfl⟩
    simp only [fAsg, fPar, fPar2, fPar3, fIfS, fRet, fRetN, fDrop, fNil, fBreak, fCont, fAugN, fAugF, fApp, fRaise, mvL, moved, eVar, eVal, eOp2, eOp1, eTup, eLst, eNew, eIf, eAnd2, eOr2, eNot1, eFrz, asD, asB, eFld, eCall, eMake, eMeth, eSl, oNone, oSome, aNil, aCons, lNil, lCons, gNm, gFd, gIx, gTp, gsNil, gsCons, tTru, tBool, tAnd2, tOr2, tNot1, tYesD, addM_i, addM_s, addM_t, addM_oo, addM_bo, addM_ob, addM_lo, addM_ol, addM_ll, subM_i, mulM_i, mulM_o, fdivM_i, modM_i, intAddM_i, cmpM_i, min2M_i, max2M_i, negM_i, absM_i, toIntM_i, isnM_any, isN, eqM_i, eqM_b, eqM_s, eqM_t, ixM_t, ixM_o, ixM_l, ixM_k, ixM_r, ixM_b, truM_b, truM_i, truM_n, truM_t, truM_o, lenM, sumM, tupM, listM, slM, lget, lgetR, lput, iRng1D, iRng2D, iSeq, itOf, List.map_cons, List.map_nil, List.replicate_zero, List.replicate_succ, List.cons_append, List.nil_append, List.append_nil, List.getElem?_cons_succ, List.getElem?_cons_zero, List.set_cons_zero, List.set_cons_succ, List.length_cons, List.length_nil, Nat.reduceAdd, Nat.reduceSub, Nat.reduceLT, Nat.reduceLeDiff, Nat.sub_self, decide_eq_true_eq, sz0, sz1, sz2, sz3, sz4, sz5, sz6, sz7, sz8, ok_int, ok_bl, ok_non, ok_tup, ok_lst, eqb_int, eqb_bl, at0, at1, at2, at3, at4, at5, beq_iff_eq, ite_true, ite_false, Bool.false_eq_true, if_true, if_false, true_and, and_true, false_and, Bool.not_true, Bool.not_false, eLc_eq]
    refine lc_fix absI (sz (by simpa using hz)) (fun d hd => ?_) ?_
    · obtain ⟨z, _, rfl⟩ := List.mem_map.mp hd
      refine ⟨_, rfl, fun R hR => ?_⟩
      simp only [fAsg, fPar, fPar2, fPar3, fIfS, fRet, fRetN, fDrop, fNil, fBreak, fCont, fAugN, fAugF, fApp, fRaise, mvL, moved, eVar, eVal, eOp2, eOp1, eTup, eLst, eNew, eIf, eAnd2, eOr2, eNot1, eFrz, asD, asB, eFld, eCall, eMake, eMeth, eSl, oNone, oSome, aNil, aCons, lNil, lCons, gNm, gFd, gIx, gTp, gsNil, gsCons, tTru, tBool, tAnd2, tOr2, tNot1, tYesD, addM_i, addM_s, addM_t, addM_oo, addM_bo, addM_ob, addM_lo, addM_ol, addM_ll, subM_i, mulM_i, mulM_o, fdivM_i, modM_i, intAddM_i, cmpM_i, min2M_i, max2M_i, negM_i, absM_i, toIntM_i, isnM_any, isN, eqM_i, eqM_b, eqM_s, eqM_t, ixM_t, ixM_o, ixM_l, ixM_k, ixM_r, ixM_b, truM_b, truM_i, truM_n, truM_t, truM_o, lenM, sumM, tupM, listM, slM, lget, lgetR, lput, iRng1D, iRng2D, iSeq, itOf, List.map_cons, List.map_nil, List.replicate_zero, List.replicate_succ, List.cons_append, List.nil_append, List.append_nil, List.getElem?_cons_succ, List.getElem?_cons_zero, List.set_cons_zero, List.set_cons_succ, List.length_cons, List.length_nil, Nat.reduceAdd, Nat.reduceSub, Nat.reduceLT, Nat.reduceLeDiff, Nat.sub_self, decide_eq_true_eq, sz0, sz1, sz2, sz3, sz4, sz5, sz6, sz7, sz8, ok_int, ok_bl, ok_non, ok_tup, ok_lst, eqb_int, eqb_bl, at0, at1, at2, at3, at4, at5, beq_iff_eq, ite_true, ite_false, Bool.false_eq_true, if_true, if_false, true_and, and_true, false_and, Bool.not_true, Bool.not_false, wipeD]
      exact hR
    · intro a
      simp only [fAsg, fPar, fPar2, fPar3, fIfS, fRet, fRetN, fDrop, fNil, fBreak, fCont, fAugN, fAugF, fApp, fRaise, mvL, moved, eVar, eVal, eOp2, eOp1, eTup, eLst, eNew, eIf, eAnd2, eOr2, eNot1, eFrz, asD, asB, eFld, eCall, eMake, eMeth, eSl, oNone, oSome, aNil, aCons, lNil, lCons, gNm, gFd, gIx, gTp, gsNil, gsCons, tTru, tBool, tAnd2, tOr2, tNot1, tYesD, addM_i, addM_s, addM_t, addM_oo, addM_bo, addM_ob, addM_lo, addM_ol, addM_ll, subM_i, mulM_i, mulM_o, fdivM_i, modM_i, intAddM_i, cmpM_i, min2M_i, max2M_i, negM_i, absM_i, toIntM_i, isnM_any, isN, eqM_i, eqM_b, eqM_s, eqM_t, ixM_t, ixM_o, ixM_l, ixM_k, ixM_r, ixM_b, truM_b, truM_i, truM_n, truM_t, truM_o, lenM, sumM, tupM, listM, slM, lget, lgetR, lput, iRng1D, iRng2D, iSeq, itOf, List.map_cons, List.map_nil, List.replicate_zero, List.replicate_succ, List.cons_append, List.nil_append, List.append_nil, List.getElem?_cons_succ, List.getElem?_cons_zero, List.set_cons_zero, List.set_cons_succ, List.length_cons, List.length_nil, Nat.reduceAdd, Nat.reduceSub, Nat.reduceLT, Nat.reduceLeDiff, Nat.sub_self, decide_eq_true_eq, sz0, sz1, sz2, sz3, sz4, sz5, sz6, sz7, sz8, ok_int, ok_bl, ok_non, ok_tup, ok_lst, eqb_int, eqb_bl, at0, at1, at2, at3, at4, at5, beq_iff_eq, ite_true, ite_false, Bool.false_eq_true, if_true, if_false, true_and, and_true, false_and, Bool.not_true, Bool.not_false, abs_map]
      exact hC _ ⟨_, -1, 0, s, rfl, by decide⟩
def bTake : FS := fCons (fIfS (tBool (eOp2 (eqM false) (eOp2 ixM (eVar 0) (eVal (.int 2))) (eVal (.int 0)))) (fCons (fAsg (eOp2 addM (eOp2 ixM (eVar 0) (eVal (.int 1))) (eVal (.int 1))) (gIx (eVar 0) (eVal (.int 1)))) (fCons (fIfS (tBool (eOp2 (cmpM fun i j => decide (i < j)) (eOp2 ixM (eVar 0) (eVal (.int 1))) (eOp1 lenM (eOp2 ixM (eVar 0) (eVal (.int 0)))))) (fAsg (eOp2 ixM (eOp2 ixM (eVar 0) (eVal (.int 0))) (eOp2 ixM (eVar 0) (eVal (.int 1)))) (gIx (eVar 0) (eVal (.int 2)))) (fNil)) (fIfS (tBool (eOp2 (eqM false) (eOp2 ixM (eVar 0) (eVal (.int 2))) (eVal (.int 0)))) (fCons (fAsg (eOp2 modM (eOp1 toIntM (eOp2 addM (eOp2 mulM (eOp2 ixM (eVar 0) (eVal (.int 3))) (eVal (.int 48271))) (eVal (.int 11)))) (eVal (.int 2147483647))) (gIx (eVar 0) (eVal (.int 3)))) (fAsg (eOp2 ixM (eVar 0) (eVal (.int 3))) (gIx (eVar 0) (eVal (.int 2))))) (fNil)))) (fNil)) (fCons (fAsg (eOp2 modM (eOp1 toIntM (eOp2 ixM (eVar 0) (eVal (.int 2)))) (eVar 1)) (gNm 2)) (fCons (fAsg (eOp2 fdivM (eOp2 ixM (eVar 0) (eVal (.int 2))) (eVar 1)) (gIx (eVar 0) (eVal (.int 2)))) (fRet (eVar 2))))
theorem den_take {n : Nat} {many : Int} {ds : List D} {μ : Mu} {C : P → Mu → Prop} {E : CX} (hm : μ[n]? = some (.lst ds)) (hd : DrawL ds) (h1 : 0 < many) (h2 : many < 2 ^ 64) (hC : ∀ v ds', 0 ≤ v → v < many → DrawL ds' → C (.val (.int v)) (μ.set n (.lst ds'))) :
    fnDen 2 3 bTake [.ref n, .int many] μ C E := by
  obtain ⟨cells, i, v, s, rfl, hi⟩ := hd
  have hl : n < μ.length := (List.getElem?_eq_some_iff.mp hm).1
  -- the last part
  have fin : ∀ {D' : FD} {μ' : Mu} {y : Option P} {cells : List Int} {i v s : Int}, n < μ'.length → -1 ≤ i → (∀ ds', DrawL ds' → D'.rt (.val (.int (v % many))) (μ'.set n (.lst ds'))) → μ'[n]? = some (.lst [.lst (cells.map D.int), .int i, .int v, .int s]) →
      fCons (fAsg (eOp2 modM (eOp1 toIntM (eOp2 ixM (eVar 0) (eVal (.int 2)))) (eVar 1)) (gNm 2)) (fCons (fAsg (eOp2 fdivM (eOp2 ixM (eVar 0) (eVal (.int 2))) (eVar 1)) (gIx (eVar 0) (eVal (.int 2)))) (fRet (eVar 2))) D' [some (.val (.ref n)), some (.val (.int many)), y] μ' := by
    intro D' μ' y cells i v s hl' hi' hR hm'
    refine fCons.go ?_
    simp only [fAsg, fPar, fPar2, fPar3, fIfS, fRet, fRetN, fDrop, fNil, fBreak, fCont, fAugN, fAugF, fApp, fRaise, mvL, moved, eVar, eVal, eOp2, eOp1, eTup, eLst, eNew, eIf, eAnd2, eOr2, eNot1, eFrz, asD, asB, eFld, eCall, eMake, eMeth, eSl, oNone, oSome, aNil, aCons, lNil, lCons, gNm, gFd, gIx, gTp, gsNil, gsCons, tTru, tBool, tAnd2, tOr2, tNot1, tYesD, addM_i, addM_s, addM_t, addM_oo, addM_bo, addM_ob, addM_lo, addM_ol, addM_ll, subM_i, mulM_i, mulM_o, fdivM_i, modM_i, intAddM_i, cmpM_i, min2M_i, max2M_i, negM_i, absM_i, toIntM_i, isnM_any, isN, eqM_i, eqM_b, eqM_s, eqM_t, ixM_t, ixM_o, ixM_l, ixM_k, ixM_r, ixM_b, truM_b, truM_i, truM_n, truM_t, truM_o, lenM, sumM, tupM, listM, slM, lget, lgetR, lput, iRng1D, iRng2D, iSeq, itOf, List.map_cons, List.map_nil, List.replicate_zero, List.replicate_succ, List.cons_append, List.nil_append, List.append_nil, List.getElem?_cons_succ, List.getElem?_cons_zero, List.set_cons_zero, List.set_cons_succ, List.length_cons, List.length_nil, Nat.reduceAdd, Nat.reduceSub, Nat.reduceLT, Nat.reduceLeDiff, Nat.sub_self, decide_eq_true_eq, sz0, sz1, sz2, sz3, sz4, sz5, sz6, sz7, sz8, ok_int, ok_bl, ok_non, ok_tup, ok_lst, eqb_int, eqb_bl, at0, at1, at2, at3, at4, at5, beq_iff_eq, ite_true, ite_false, Bool.false_eq_true, if_true, if_false, true_and, and_true, false_and, Bool.not_true, Bool.not_false, hm']
    refine ⟨h1, fCons.go ?_⟩
    simp only [fAsg, fPar, fPar2, fPar3, fIfS, fRet, fRetN, fDrop, fNil, fBreak, fCont, fAugN, fAugF, fApp, fRaise, mvL, moved, eVar, eVal, eOp2, eOp1, eTup, eLst, eNew, eIf, eAnd2, eOr2, eNot1, eFrz, asD, asB, eFld, eCall, eMake, eMeth, eSl, oNone, oSome, aNil, aCons, lNil, lCons, gNm, gFd, gIx, gTp, gsNil, gsCons, tTru, tBool, tAnd2, tOr2, tNot1, tYesD, addM_i, addM_s, addM_t, addM_oo, addM_bo, addM_ob, addM_lo, addM_ol, addM_ll, subM_i, mulM_i, mulM_o, fdivM_i, modM_i, intAddM_i, cmpM_i, min2M_i, max2M_i, negM_i, absM_i, toIntM_i, isnM_any, isN, eqM_i, eqM_b, eqM_s, eqM_t, ixM_t, ixM_o, ixM_l, ixM_k, ixM_r, ixM_b, truM_b, truM_i, truM_n, truM_t, truM_o, lenM, sumM, tupM, listM, slM, lget, lgetR, lput, iRng1D, iRng2D, iSeq, itOf, List.map_cons, List.map_nil, List.replicate_zero, List.replicate_succ, List.cons_append, List.nil_append, List.append_nil, List.getElem?_cons_succ, List.getElem?_cons_zero, List.set_cons_zero, List.set_cons_succ, List.length_cons, List.length_nil, Nat.reduceAdd, Nat.reduceSub, Nat.reduceLT, Nat.reduceLeDiff, Nat.sub_self, decide_eq_true_eq, sz0, sz1, sz2, sz3, sz4, sz5, sz6, sz7, sz8, ok_int, ok_bl, ok_non, ok_tup, ok_lst, eqb_int, eqb_bl, at0, at1, at2, at3, at4, at5, beq_iff_eq, ite_true, ite_false, Bool.false_eq_true, if_true, if_false, true_and, and_true, false_and, Bool.not_true, Bool.not_false, hm', ix4_2]
    exact ⟨divOk_of h1 h2, hR _ ⟨cells, i, v / many, s, rfl, hi'⟩⟩
  have res : ∀ {v : Int} {ds' : List D}, DrawL ds' → C (.val (.int (v % many))) (μ.set n (.lst ds')) := fun {v ds'} h => hC _ _ (Int.emod_nonneg _ (by omega)) (Int.emod_lt_of_pos _ h1) h
  refine ⟨rfl, fCons.go ?_⟩
  simp only [fAsg, fPar, fPar2, fPar3, fIfS, fRet, fRetN, fDrop, fNil, fBreak, fCont, fAugN, fAugF, fApp, fRaise, mvL, moved, eVar, eVal, eOp2, eOp1, eTup, eLst, eNew, eIf, eAnd2, eOr2, eNot1, eFrz, asD, asB, eFld, eCall, eMake, eMeth, eSl, oNone, oSome, aNil, aCons, lNil, lCons, gNm, gFd, gIx, gTp, gsNil, gsCons, tTru, tBool, tAnd2, tOr2, tNot1, tYesD, addM_i, addM_s, addM_t, addM_oo, addM_bo, addM_ob, addM_lo, addM_ol, addM_ll, subM_i, mulM_i, mulM_o, fdivM_i, modM_i, intAddM_i, cmpM_i, min2M_i, max2M_i, negM_i, absM_i, toIntM_i, isnM_any, isN, eqM_i, eqM_b, eqM_s, eqM_t, ixM_t, ixM_o, ixM_l, ixM_k, ixM_r, ixM_b, truM_b, truM_i, truM_n, truM_t, truM_o, lenM, sumM, tupM, listM, slM, lget, lgetR, lput, iRng1D, iRng2D, iSeq, itOf, List.map_cons, List.map_nil, List.replicate_zero, List.replicate_succ, List.cons_append, List.nil_append, List.append_nil, List.getElem?_cons_succ, List.getElem?_cons_zero, List.set_cons_zero, List.set_cons_succ, List.length_cons, List.length_nil, Nat.reduceAdd, Nat.reduceSub, Nat.reduceLT, Nat.reduceLeDiff, Nat.sub_self, decide_eq_true_eq, sz0, sz1, sz2, sz3, sz4, sz5, sz6, sz7, sz8, ok_int, ok_bl, ok_non, ok_tup, ok_lst, eqb_int, eqb_bl, at0, at1, at2, at3, at4, at5, beq_iff_eq, ite_true, ite_false, Bool.false_eq_true, if_true, if_false, true_and, and_true, false_and, Bool.not_true, Bool.not_false, hm]
  split
  · refine fCons.go ?_
    simp only [fAsg, fPar, fPar2, fPar3, fIfS, fRet, fRetN, fDrop, fNil, fBreak, fCont, fAugN, fAugF, fApp, fRaise, mvL, moved, eVar, eVal, eOp2, eOp1, eTup, eLst, eNew, eIf, eAnd2, eOr2, eNot1, eFrz, asD, asB, eFld, eCall, eMake, eMeth, eSl, oNone, oSome, aNil, aCons, lNil, lCons, gNm, gFd, gIx, gTp, gsNil, gsCons, tTru, tBool, tAnd2, tOr2, tNot1, tYesD, addM_i, addM_s, addM_t, addM_oo, addM_bo, addM_ob, addM_lo, addM_ol, addM_ll, subM_i, mulM_i, mulM_o, fdivM_i, modM_i, intAddM_i, cmpM_i, min2M_i, max2M_i, negM_i, absM_i, toIntM_i, isnM_any, isN, eqM_i, eqM_b, eqM_s, eqM_t, ixM_t, ixM_o, ixM_l, ixM_k, ixM_r, ixM_b, truM_b, truM_i, truM_n, truM_t, truM_o, lenM, sumM, tupM, listM, slM, lget, lgetR, lput, iRng1D, iRng2D, iSeq, itOf, List.map_cons, List.map_nil, List.replicate_zero, List.replicate_succ, List.cons_append, List.nil_append, List.append_nil, List.getElem?_cons_succ, List.getElem?_cons_zero, List.set_cons_zero, List.set_cons_succ, List.length_cons, List.length_nil, Nat.reduceAdd, Nat.reduceSub, Nat.reduceLT, Nat.reduceLeDiff, Nat.sub_self, decide_eq_true_eq, sz0, sz1, sz2, sz3, sz4, sz5, sz6, sz7, sz8, ok_int, ok_bl, ok_non, ok_tup, ok_lst, eqb_int, eqb_bl, at0, at1, at2, at3, at4, at5, beq_iff_eq, ite_true, ite_false, Bool.false_eq_true, if_true, if_false, true_and, and_true, false_and, Bool.not_true, Bool.not_false, hm, ix4_1]
    refine fCons.go ?_
    simp only [fAsg, fPar, fPar2, fPar3, fIfS, fRet, fRetN, fDrop, fNil, fBreak, fCont, fAugN, fAugF, fApp, fRaise, mvL, moved, eVar, eVal, eOp2, eOp1, eTup, eLst, eNew, eIf, eAnd2, eOr2, eNot1, eFrz, asD, asB, eFld, eCall, eMake, eMeth, eSl, oNone, oSome, aNil, aCons, lNil, lCons, gNm, gFd, gIx, gTp, gsNil, gsCons, tTru, tBool, tAnd2, tOr2, tNot1, tYesD, addM_i, addM_s, addM_t, addM_oo, addM_bo, addM_ob, addM_lo, addM_ol, addM_ll, subM_i, mulM_i, mulM_o, fdivM_i, modM_i, intAddM_i, cmpM_i, min2M_i, max2M_i, negM_i, absM_i, toIntM_i, isnM_any, isN, eqM_i, eqM_b, eqM_s, eqM_t, ixM_t, ixM_o, ixM_l, ixM_k, ixM_r, ixM_b, truM_b, truM_i, truM_n, truM_t, truM_o, lenM, sumM, tupM, listM, slM, lget, lgetR, lput, iRng1D, iRng2D, iSeq, itOf, List.map_cons, List.map_nil, List.replicate_zero, List.replicate_succ, List.cons_append, List.nil_append, List.append_nil, List.getElem?_cons_succ, List.getElem?_cons_zero, List.set_cons_zero, List.set_cons_succ, List.length_cons, List.length_nil, Nat.reduceAdd, Nat.reduceSub, Nat.reduceLT, Nat.reduceLeDiff, Nat.sub_self, decide_eq_true_eq, sz0, sz1, sz2, sz3, sz4, sz5, sz6, sz7, sz8, ok_int, ok_bl, ok_non, ok_tup, ok_lst, eqb_int, eqb_bl, at0, at1, at2, at3, at4, at5, beq_iff_eq, ite_true, ite_false, Bool.false_eq_true, if_true, if_false, true_and, and_true, false_and, Bool.not_true, Bool.not_false, List.getElem?_set_self hl, List.length_map]
    split
    · rename_i lt
      obtain ⟨c, e1, e2⟩ := at_of (xs := cells.map D.int) (i := i + 1) (by omega) (by simpa using lt)
      obtain ⟨c', rfl⟩ : ∃ c', c = .int c' := by
        rw [List.getElem?_map] at e2
        cases q : cells[(i + 1).toNat]? with
        | none => rw [q] at e2; cases e2
        | some z => rw [q] at e2; exact ⟨z, (Option.some.inj e2).symm⟩
      simp only [fAsg, fPar, fPar2, fPar3, fIfS, fRet, fRetN, fDrop, fNil, fBreak, fCont, fAugN, fAugF, fApp, fRaise, mvL, moved, eVar, eVal, eOp2, eOp1, eTup, eLst, eNew, eIf, eAnd2, eOr2, eNot1, eFrz, asD, asB, eFld, eCall, eMake, eMeth, eSl, oNone, oSome, aNil, aCons, lNil, lCons, gNm, gFd, gIx, gTp, gsNil, gsCons, tTru, tBool, tAnd2, tOr2, tNot1, tYesD, addM_i, addM_s, addM_t, addM_oo, addM_bo, addM_ob, addM_lo, addM_ol, addM_ll, subM_i, mulM_i, mulM_o, fdivM_i, modM_i, intAddM_i, cmpM_i, min2M_i, max2M_i, negM_i, absM_i, toIntM_i, isnM_any, isN, eqM_i, eqM_b, eqM_s, eqM_t, ixM_t, ixM_o, ixM_l, ixM_k, ixM_r, ixM_b, truM_b, truM_i, truM_n, truM_t, truM_o, lenM, sumM, tupM, listM, slM, lget, lgetR, lput, iRng1D, iRng2D, iSeq, itOf, List.map_cons, List.map_nil, List.replicate_zero, List.replicate_succ, List.cons_append, List.nil_append, List.append_nil, List.getElem?_cons_succ, List.getElem?_cons_zero, List.set_cons_zero, List.set_cons_succ, List.length_cons, List.length_nil, Nat.reduceAdd, Nat.reduceSub, Nat.reduceLT, Nat.reduceLeDiff, Nat.sub_self, decide_eq_true_eq, sz0, sz1, sz2, sz3, sz4, sz5, sz6, sz7, sz8, ok_int, ok_bl, ok_non, ok_tup, ok_lst, eqb_int, eqb_bl, at0, at1, at2, at3, at4, at5, beq_iff_eq, ite_true, ite_false, Bool.false_eq_true, if_true, if_false, true_and, and_true, false_and, Bool.not_true, Bool.not_false, List.getElem?_set_self hl, e1, ix4_2, List.set_set]
      split
      · refine fCons.go ?_
        simp only [fAsg, fPar, fPar2, fPar3, fIfS, fRet, fRetN, fDrop, fNil, fBreak, fCont, fAugN, fAugF, fApp, fRaise, mvL, moved, eVar, eVal, eOp2, eOp1, eTup, eLst, eNew, eIf, eAnd2, eOr2, eNot1, eFrz, asD, asB, eFld, eCall, eMake, eMeth, eSl, oNone, oSome, aNil, aCons, lNil, lCons, gNm, gFd, gIx, gTp, gsNil, gsCons, tTru, tBool, tAnd2, tOr2, tNot1, tYesD, addM_i, addM_s, addM_t, addM_oo, addM_bo, addM_ob, addM_lo, addM_ol, addM_ll, subM_i, mulM_i, mulM_o, fdivM_i, modM_i, intAddM_i, cmpM_i, min2M_i, max2M_i, negM_i, absM_i, toIntM_i, isnM_any, isN, eqM_i, eqM_b, eqM_s, eqM_t, ixM_t, ixM_o, ixM_l, ixM_k, ixM_r, ixM_b, truM_b, truM_i, truM_n, truM_t, truM_o, lenM, sumM, tupM, listM, slM, lget, lgetR, lput, iRng1D, iRng2D, iSeq, itOf, List.map_cons, List.map_nil, List.replicate_zero, List.replicate_succ, List.cons_append, List.nil_append, List.append_nil, List.getElem?_cons_succ, List.getElem?_cons_zero, List.set_cons_zero, List.set_cons_succ, List.length_cons, List.length_nil, Nat.reduceAdd, Nat.reduceSub, Nat.reduceLT, Nat.reduceLeDiff, Nat.sub_self, decide_eq_true_eq, sz0, sz1, sz2, sz3, sz4, sz5, sz6, sz7, sz8, ok_int, ok_bl, ok_non, ok_tup, ok_lst, eqb_int, eqb_bl, at0, at1, at2, at3, at4, at5, beq_iff_eq, ite_true, ite_false, Bool.false_eq_true, if_true, if_false, true_and, and_true, false_and, Bool.not_true, Bool.not_false, List.getElem?_set_self hl, ix4_3, ix4_2, List.set_set]
        refine ⟨mulOk_r (by decide) (by decide), by decide, ?_⟩
        refine fin (by simpa using hl) (by omega) (fun ds' h => ?_) (List.getElem?_set_self hl)
        rw [List.set_set]
        exact res h
      · refine fin (by simpa using hl) (by omega) (fun ds' h => ?_) (List.getElem?_set_self hl)
        rw [List.set_set]
        exact res h
    · refine fCons.go ?_
      simp only [fAsg, fPar, fPar2, fPar3, fIfS, fRet, fRetN, fDrop, fNil, fBreak, fCont, fAugN, fAugF, fApp, fRaise, mvL, moved, eVar, eVal, eOp2, eOp1, eTup, eLst, eNew, eIf, eAnd2, eOr2, eNot1, eFrz, asD, asB, eFld, eCall, eMake, eMeth, eSl, oNone, oSome, aNil, aCons, lNil, lCons, gNm, gFd, gIx, gTp, gsNil, gsCons, tTru, tBool, tAnd2, tOr2, tNot1, tYesD, addM_i, addM_s, addM_t, addM_oo, addM_bo, addM_ob, addM_lo, addM_ol, addM_ll, subM_i, mulM_i, mulM_o, fdivM_i, modM_i, intAddM_i, cmpM_i, min2M_i, max2M_i, negM_i, absM_i, toIntM_i, isnM_any, isN, eqM_i, eqM_b, eqM_s, eqM_t, ixM_t, ixM_o, ixM_l, ixM_k, ixM_r, ixM_b, truM_b, truM_i, truM_n, truM_t, truM_o, lenM, sumM, tupM, listM, slM, lget, lgetR, lput, iRng1D, iRng2D, iSeq, itOf, List.map_cons, List.map_nil, List.replicate_zero, List.replicate_succ, List.cons_append, List.nil_append, List.append_nil, List.getElem?_cons_succ, List.getElem?_cons_zero, List.set_cons_zero, List.set_cons_succ, List.length_cons, List.length_nil, Nat.reduceAdd, Nat.reduceSub, Nat.reduceLT, Nat.reduceLeDiff, Nat.sub_self, decide_eq_true_eq, sz0, sz1, sz2, sz3, sz4, sz5, sz6, sz7, sz8, ok_int, ok_bl, ok_non, ok_tup, ok_lst, eqb_int, eqb_bl, at0, at1, at2, at3, at4, at5, beq_iff_eq, ite_true, ite_false, Bool.false_eq_true, if_true, if_false, true_and, and_true, false_and, Bool.not_true, Bool.not_false, List.getElem?_set_self hl, ix4_3, ix4_2, List.set_set]
      refine ⟨mulOk_r (by decide) (by decide), by decide, ?_⟩
      refine fin (by simpa using hl) (by omega) (fun ds' h => ?_) (List.getElem?_set_self hl)
      rw [List.set_set]
      exact res h
  · exact fin hl hi (fun ds' h => res h) hm
/-! ### the store, place by place -/
/-- all but place n is as it was -/
def Oth (n : Nat) (μ μ' : Mu) : Prop := (∀ k, k ≠ n → μ'[k]? = μ[k]?) ∧ μ'.length = μ.length
theorem Oth.set (n : Nat) (μ : Mu) (o : MO) : Oth n μ (μ.set n o) := ⟨fun k h => List.getElem?_set_ne (Ne.symm h), by simp⟩
theorem Oth.refl (n : Nat) (μ : Mu) : Oth n μ μ := ⟨fun _ _ => rfl, rfl⟩
theorem Oth.trans {n : Nat} {μ μ' μ2 : Mu} (a : Oth n μ μ') (b : Oth n μ' μ2) : Oth n μ μ2 := ⟨fun k h => (b.1 k h).trans (a.1 k h), b.2.trans a.2⟩
theorem Oth.at {n k : Nat} {μ μ' : Mu} {o : MO} (a : Oth n μ μ') (h : k ≠ n) (e : μ[k]? = some o) : μ'[k]? = some o := (a.1 k h).trans e
/-- a draw stands at n -/
def Draw (μ : Mu) (n : Nat) : Prop := ∃ ds, μ[n]? = some (.lst ds) ∧ DrawL ds
theorem Draw.oth {μ μ' : Mu} {n k : Nat} (d : Draw μ n) (o : Oth k μ μ') (h : n ≠ k) : Draw μ' n := let ⟨ds, e, w⟩ := d; ⟨ds, o.at h e, w⟩
theorem Draw.app {μ : Mu} {n : Nat} (d : Draw μ n) (l : Mu) : Draw (μ ++ l) n := by
  obtain ⟨ds, e, w⟩ := d
  exact ⟨ds, by rw [List.getElem?_append_left (List.getElem?_eq_some_iff.mp e).1]; exact e, w⟩
theorem Draw.lt {μ : Mu} {n : Nat} (d : Draw μ n) : n < μ.length := let ⟨_, e, _⟩ := d; (List.getElem?_eq_some_iff.mp e).1
theorem take_ {n : Nat} {many : Int} {μ : Mu} {C : P → Mu → Prop} {E : CX} (d : Draw μ n) (h1 : 0 < many) (h2 : many < 2 ^ 64) (hC : ∀ v μ', 0 ≤ v → v < many → Draw μ' n → Oth n μ μ' → C (.val (.int v)) μ') : fnDen 2 3 bTake [.ref n, .int many] μ C E := by
  obtain ⟨ds, e, w⟩ := d
  exact den_take e w h1 h2 fun v ds' v1 v2 w' => hC v _ v1 v2 ⟨ds', List.getElem?_set_self (List.getElem?_eq_some_iff.mp e).1, w'⟩ (Oth.set n μ _)
theorem draw_ {zs : List Int} {μ : Mu} {C : P → Mu → Prop} {E : CX} (hz : zs.length ≤ 1000) (hC : ∀ μ', Draw μ' μ.length → μ'.length = μ.length + 1 → (∀ k, k < μ.length → μ'[k]? = μ[k]?) → C (.val (.ref μ.length)) μ') : fnDen 1 3 bDraw [.kls (zs.map D.int)] μ C E :=
  den_draw hz fun ds w => hC _ ⟨ds, by simp, w⟩ (by simp) fun k lt => List.getElem?_append_left lt
/-- one of a few -/
theorem pick2 {w : Int} {x y : D} (h1 : 0 ≤ w) (h2 : w < 2) : ∃ d, atI [x, y] w = some d ∧ (d = x ∨ d = y) := by
  have : w = 0 ∨ w = 1 := by omega
  rcases this with rfl | rfl
  · exact ⟨x, at0, .inl rfl⟩
  · exact ⟨y, at1, .inr rfl⟩
theorem pick3 {w : Int} {x y z : D} (h1 : 0 ≤ w) (h2 : w < 3) : ∃ d, atI [x, y, z] w = some d ∧ (d = x ∨ d = y ∨ d = z) := by
  have : w = 0 ∨ w = 1 ∨ w = 2 := by omega
  rcases this with rfl | rfl | rfl
  · exact ⟨x, at0, .inl rfl⟩
  · exact ⟨y, at1, .inr (.inl rfl)⟩
  · exact ⟨z, at2, .inr (.inr rfl)⟩
theorem pick4 {w : Int} {x y z u : D} (h1 : 0 ≤ w) (h2 : w < 4) : ∃ d, atI [x, y, z, u] w = some d ∧ (d = x ∨ d = y ∨ d = z ∨ d = u) := by
  have : w = 0 ∨ w = 1 ∨ w = 2 ∨ w = 3 := by omega
  rcases this with rfl | rfl | rfl | rfl
  · exact ⟨x, at0, .inl rfl⟩
  · exact ⟨y, at1, .inr (.inl rfl)⟩
  · exact ⟨z, at2, .inr (.inr (.inl rfl))⟩
  · exact ⟨u, at3, .inr (.inr (.inr rfl))⟩
/-- .. of ints -/
theorem pick2i {w x y : Int} (h1 : 0 ≤ w) (h2 : w < 2) : ∃ d : Int, atI [D.int x, D.int y] w = some (.int d) ∧ (d = x ∨ d = y) := by
  obtain ⟨d, e, rfl | rfl⟩ := pick2 (x := D.int x) (y := D.int y) h1 h2
  · exact ⟨x, e, .inl rfl⟩
  · exact ⟨y, e, .inr rfl⟩
theorem pick3i {w x y z : Int} (h1 : 0 ≤ w) (h2 : w < 3) : ∃ d : Int, atI [D.int x, D.int y, D.int z] w = some (.int d) ∧ (d = x ∨ d = y ∨ d = z) := by
  obtain ⟨d, e, rfl | rfl | rfl⟩ := pick3 (x := D.int x) (y := D.int y) (z := D.int z) h1 h2
  · exact ⟨x, e, .inl rfl⟩
  · exact ⟨y, e, .inr (.inl rfl)⟩
  · exact ⟨z, e, .inr (.inr rfl)⟩
theorem pick4i {w x y z u : Int} (h1 : 0 ≤ w) (h2 : w < 4) : ∃ d : Int, atI [D.int x, D.int y, D.int z, D.int u] w = some (.int d) ∧ (d = x ∨ d = y ∨ d = z ∨ d = u) := by
  obtain ⟨d, e, rfl | rfl | rfl | rfl⟩ := pick4 (x := D.int x) (y := D.int y) (z := D.int z) (u := D.int u) h1 h2
  · exact ⟨x, e, .inl rfl⟩
  · exact ⟨y, e, .inr (.inl rfl)⟩
  · exact ⟨z, e, .inr (.inr (.inl rfl))⟩
  · exact ⟨u, e, .inr (.inr (.inr rfl))⟩
/-! ### slices, subscripts of plain lists -/
theorem cut_at {α : Type} {xs : List α} {x y : Int} {k n : Nat} (hx : x = k) (hy : y = n) (h : k ≤ n) (h2 : n ≤ xs.length) : cutL xs (some x) (some y) = (xs.drop k).take (n - k) := by
  subst hx hy
  unfold cutL
  rw [HT.sIx_nat, HT.sIx_nat, Nat.min_eq_left h2, Nat.min_eq_left (by omega)]
theorem at_map {α : Type} {f : α → D} {xs : List α} {x : Int} {k : Nat} {v : α} (hx : x = k) (h : xs[k]? = some v) : atI (xs.map f) x = some (f v) := by
  subst hx
  exact atI_nat (by rw [List.getElem?_map, h]; rfl)
theorem set_same {μ : Mu} {n : Nat} {o : MO} (h : μ[n]? = some o) : μ.set n o = μ := by
  refine List.ext_getElem? fun j => ?_
  by_cases e : n = j
  · subst e
    rw [List.getElem?_set_self (List.getElem?_eq_some_iff.mp h).1, h]
  · rw [List.getElem?_set_ne e]
theorem small {i : Int} (h1 : -(2 ^ 64) < i) (h2 : i < 2 ^ 64) : i.natAbs.log2 < 1920 := Nat.lt_of_lt_of_le (PySem.Flt.log2_lt_of (k := 64) (by decide) (by omega)) (by decide)
end NT

/-! NT: sorted(..) of ints and of tuples of ints. -/
namespace NT
open PySem PySem.Spec PyProof.Rows L2 Srt SrtO

/-! ### rows of ints in order -/
def lexI : List Int → List Int → Bool
  | x :: xs, y :: ys => if x = y then lexI xs ys else decide (x < y)
  | [], _ :: _ => true
  | _, [] => false
theorem lexI_irr : ∀ l : List Int, lexI l l = false
  | [] => rfl
  | x :: l => by simp only [lexI, if_true, lexI_irr l]
theorem lexI_asym : ∀ l m : List Int, lexI l m = true → lexI m l = false
  | [], [], h => by simp [lexI] at h
  | [], _ :: _, _ => rfl
  | _ :: _, [], h => by simp [lexI] at h
  | x :: l, y :: m, h => by
    simp only [lexI] at h ⊢
    by_cases e : x = y
    · subst e
      rw [if_pos rfl] at h ⊢
      exact lexI_asym l m h
    · rw [if_neg e] at h
      rw [if_neg (Ne.symm e)]
      have := of_decide_eq_true h
      exact decide_eq_false (by omega)
theorem lexI_tr : ∀ l m n : List Int, lexI m l = false → lexI n m = false → lexI n l = false
  | [], [], [], _, _ => rfl
  | [], [], _ :: _, _, _ => rfl
  | [], _ :: _, [], _, h => by simp [lexI] at h
  | [], _ :: _, _ :: _, _, _ => rfl
  | _ :: _, [], _, h, _ => by simp [lexI] at h
  | _ :: _, _ :: _, [], _, h => by simp [lexI] at h
  | x :: l, y :: m, z :: n, h1, h2 => by
    simp only [lexI] at h1 h2 ⊢
    by_cases e1 : y = x
    · subst e1
      rw [if_pos rfl] at h1
      by_cases e2 : z = y
      · subst e2
        rw [if_pos rfl] at h2 ⊢
        exact lexI_tr l m n h1 h2
      · rw [if_neg e2] at h2 ⊢
        exact h2
    · rw [if_neg e1] at h1
      have a := of_decide_eq_false h1
      by_cases e2 : z = y
      · subst e2
        rw [if_neg e1]
        exact h1
      · rw [if_neg e2] at h2
        have b := of_decide_eq_false h2
        rw [if_neg (by omega)]
        exact decide_eq_false (by omega)
theorem swo_lexI {α : Type} (k : α → List Int) : Swo fun v u => lexI (k v) (k u) := ⟨fun x y h => lexI_asym _ _ h, fun x y z h1 h2 => lexI_tr _ _ _ h1 h2⟩
section
variable {prog : Program} {w : World} {A : Around} {E : Value → Shared → Prop} {s : Shared} {Q : Bool → Shared → Prop}
theorem lex_rows {b : Bool} {xs ys : List Value} {ns ms : List Int} (i : Nat) (hx : IntsAre xs ns) (hy : IntsAre ys ms) (hl : ns.length = ms.length) (h : Q (lexI ns ms) s) : PySem.W.KatLex prog w A b false Q (xs.zip ys) i s := by
  induction hx generalizing ys ms i with
  | nil =>
    cases hy with
    | nil => exact PySem.W.kat_nil h
    | cons q u hy => simp at hl
  | @cons p t xs ns hx ih =>
    cases hy with
    | nil => simp at hl
    | @cons q u ys ms hy =>
      have hl' : ns.length = ms.length := by simpa using hl
      show PySem.W.KatLex prog w A b false Q ((Value.int p t, Value.int q u) :: xs.zip ys) i s
      refine PySem.W.kat_cons (wpAny_eqBool_int ?_)
      simp only [lexI] at h
      by_cases e : p = q
      · subst e
        rw [if_pos rfl] at h
        rw [beq_self_eq_true]
        refine PySem.W.kat_yes ?_
        first
          | exact ih (i + 1) hy hl' h
          | exact ih _ _ (i + 1) hy hl' h
      · rw [if_neg e] at h
        rw [show (p == q) = false from beq_eq_false_iff_ne.mpr e]
        exact PySem.W.kat_no (TS.oneLt_ints _ h)
/-- tuples of d ints each -/
def TupsD (h : Heap) (d : Nat) (vs : List Value) : Prop := ∀ v, v ∈ vs → ∃ ns, TS.TupInts h v ns ∧ ns.length = d
theorem heads_of {h : Heap} {d : Nat} (hd : 1 ≤ d) : ∀ vs : List Value, TupsD h d vs → ∃ fs, PySem.W.KatTups h vs fs ∧ fs.length = vs.length ∧ ∀ f, f ∈ fs → ∃ n t, f = Value.int n t
  | [], _ => ⟨[], PySem.W.KatTups.nil, rfl, fun f hf => by simp at hf⟩
  | v :: vs, x => by
    obtain ⟨fs, k, hl, hi⟩ := heads_of hd vs fun u hu => x u (List.mem_cons_of_mem _ hu)
    obtain ⟨ns, ⟨a, xs, rfl, ⟨o, ho, hc, n, hdt⟩, i⟩, hn⟩ := x v List.mem_cons_self
    have l := i.length
    cases q : xs.toList with
    | nil =>
      rw [q, List.length_nil, hn] at l
      omega
    | cons y ys =>
      obtain ⟨m, t, hy⟩ := i.all y (by rw [q]; exact List.mem_cons_self)
      refine ⟨y :: fs, PySem.W.KatTups.cons ho hc hdt ?_ k, by simp [hl], fun f hf => ?_⟩
      · have z := congrArg (fun l : List Value => l[0]?) q
        simpa using z
      · rcases List.mem_cons.mp hf with rfl | hf
        · exact ⟨m, t, hy⟩
        · exact hi f hf
theorem rows_cmp {d : Nat} {vs : List Value} {k : Value → List Int} (hk : ∀ v ∈ vs, TS.TupInts s.heap v (k v) ∧ (k v).length = d) : SrtO.Cmp prog w A s (tuples' true) (fun p => p.1 ∈ vs) (lt2 fun v u => lexI (k v) (k u)) := by
  intro p q hm hm'
  obtain ⟨⟨a, xs, e1, ⟨o, ho, hc, n, hdt⟩, i⟩, l1⟩ := hk _ hm
  obtain ⟨⟨a', ys, e2, ⟨o', ho', hc', n', hdt'⟩, i'⟩, l2⟩ := hk _ hm'
  show wpAny (model prog w) A (keyLt' (tuples' true) p.1 q.1) (fun r s' => s' = s ∧ r = lexI (k p.1) (k q.1)) (fun _ _ => False) s
  generalize k p.1 = ns at i l1 ⊢
  generalize k q.1 = ms at i' l2 ⊢
  rw [e1, e2]
  refine PySem.W.kat_lt ho hdt ho' hdt' ?_
  have sz : decide (xs.size < ys.size) = false := by
    have a1 := i.length
    have a2 := i'.length
    rw [Array.length_toList] at a1 a2
    exact decide_eq_false (by omega)
  rw [sz]
  exact lex_rows 0 i i' (by omega) ⟨rfl, rfl⟩
theorem rows_sortable {a : Addr} {d : Nat} {vs : List Value} {k : Value → List Int} (hd : 1 ≤ d) (h0 : 0 < vs.length) (hk : ∀ v ∈ vs, TS.TupInts s.heap v (k v) ∧ (k v).length = d) (ha : ∀ o, s.heap.get? a = some o → o.cls ≠ .type "tuple") :
    SortableO prog w A s a vs fun v u => lexI (k v) (k u) := by
  intro h' keep
  have hk' : ∀ v ∈ vs, TS.TupInts h' v (k v) ∧ (k v).length = d := fun v hm => ⟨(hk v hm).1.keeps fun b o e c => keep b o (fun z => by subst z; exact ha o e c) e, (hk v hm).2⟩
  obtain ⟨fs, h1, h2, h3⟩ := heads_of hd vs fun v hm => ⟨_, hk' v hm⟩
  refine ⟨tuples' true, fun Q E hq => ?_, rows_cmp hk'⟩
  refine PySem.W.kat_kind (T := .type "int") h1 (by omega) (fun f hm => ?_) (by rfl) ?_
  · obtain ⟨x, t, rfl⟩ := h3 f hm
    exact PySem.W.Looks.now
  · rw [show (Value.type "int" != Value.type "tuple") = true by first | decide +kernel | rfl | decide]
    exact hq
end
/-- sorted(xs) of tuples of d ints, any number of them -/
def rSortR (K : PySem.W.Frag) : List V → Hp → VK → Prop := fun vs H Q => ∃ (a : Addr) (xs : List V) (ks : List (List Int)) (d : Nat), vs = [V.ref a] ∧ SqL K H a xs ∧ 1 ≤ d ∧ xs.length = ks.length ∧
  (∀ p ∈ xs.zip ks, ∃ t, p.1 = V.ref t ∧ SqT K H t (p.2.map V.int) ∧ p.2.length = d) ∧
  ∀ (zs : List (V × List Int)) (p : Addr), zs.Perm (xs.zip ks) → zs.Pairwise (fun x y => lexI y.2 x.2 = false) → H p = none → Q (.ref p) (upd H p (.lst (zs.map (·.1))))
section
variable {X : Cx}
theorem zip_left {α β : Type} : ∀ {xs : List α} {ks : List β}, xs.length = ks.length → ∀ x ∈ xs, ∃ k, (x, k) ∈ xs.zip ks
  | [], _, _, x, h => by simp at h
  | y :: xs, [], e, _, _ => by simp at e
  | y :: xs, k :: ks, e, x, h => by
    rcases List.mem_cons.mp h with q | q
    · exact ⟨k, by rw [q]; exact List.mem_cons_self⟩
    · obtain ⟨k', hk⟩ := zip_left (xs := xs) (ks := ks) (by simpa using e) x q
      exact ⟨k', List.mem_cons_of_mem _ hk⟩
/-- the keys, read off the heap -/
theorem keys_read {h : Heap} : ∀ {xs : List V} {us : List Value} {ks : List (List Int)}, Vals xs us → xs.length = ks.length → (∀ p ∈ xs.zip ks, ∃ t, p.1 = V.ref t ∧ TS.TupInts h (.ref t) p.2) →
    xs.zip ks = us.map (fun u => (backV u, TS.intsOf h u)) ∧ ∀ u ∈ us, ∃ k, (backV u, k) ∈ xs.zip ks ∧ TS.TupInts h u k ∧ TS.intsOf h u = k
  | _, _, [], .nil, _, _ => ⟨rfl, fun u hu => absurd hu (by simp)⟩
  | _, _, [], .cons _ _, e, _ => by simp at e
  | _, _, _ :: _, .nil, e, _ => by simp at e
  | x :: xs, u :: us, k :: ks, .cons r t, e, h0 => by
    obtain ⟨a, e1, e2⟩ := h0 (x, k) List.mem_cons_self
    have e1' : x = V.ref a := e1
    subst e1'
    obtain rfl : u = Value.ref a := r
    obtain ⟨q1, q2⟩ := keys_read t (by simpa using e) fun p hp => h0 p (List.mem_cons_of_mem _ hp)
    have ke := e2.ints
    refine ⟨?_, fun u hu => ?_⟩
    · rw [List.zip_cons_cons, List.map_cons, ← q1, ke]
      rfl
    · rcases List.mem_cons.mp hu with z | z
      · rw [z]
        exact ⟨k, List.mem_cons_self, e2, ke⟩
      · obtain ⟨k', z1, z2, z3⟩ := q2 u z
        exact ⟨k', List.mem_cons_of_mem _ z1, z2, z3⟩
theorem cr_sortR : CallR X (.builtin "sorted") (rSortR X.K) := by
  intro pins s σ H vs us Q I r h
  obtain ⟨a, xs, ks, d, rfl, hs, hd, hl, hx, q⟩ := h
  obtain ⟨its, rv, hi, hz⟩ := I.list hs
  obtain ⟨u, rfl, ru⟩ := vals1 r
  obtain rfl : u = Value.ref a := ru
  have tups : ∀ p ∈ xs.zip ks, ∃ t, p.1 = V.ref t ∧ TS.TupInts s.heap (.ref t) p.2 := fun p hp => by
    obtain ⟨t, e1, e2, _⟩ := hx p hp
    obtain ⟨js, rj, ⟨o, ho, hc, n, hdt⟩, _⟩ := I.tuple e2
    exact ⟨t, e1, t, js.toArray, rfl, ⟨o, ho, hc, n, hdt⟩, by simpa using rj.ints⟩
  obtain ⟨e1, e2⟩ := refs_back rv fun x m => by
    obtain ⟨k, hk⟩ := zip_left hl x m
    obtain ⟨t, e, _⟩ := hx _ hk
    exact ⟨t, e⟩
  obtain ⟨z1, z2⟩ := keys_read rv hl tups
  have hk : ∀ v ∈ its, TS.TupInts s.heap v (TS.intsOf s.heap v) ∧ (TS.intsOf s.heap v).length = d := fun v hv => by
    obtain ⟨k, m, t, e⟩ := z2 v hv
    obtain ⟨_, _, _, l⟩ := hx _ m
    rw [e]
    exact ⟨t, l⟩
  refine sorted_ord (swo_lexI (TS.intsOf s.heap)) hi.isList (by rw [← rv.length]; exact hz) (fun h2 h₁ b hb keep => ?_) fun out hs hb => ?_
  · refine rows_sortable (s := { s with heap := h₁ }) hd (by omega) (fun v hm => ⟨(hk v hm).1.keeps fun b o e _ => (keep b o e).2, (hk v hm).2⟩) fun o e => ?_
    have e' : some o = some (seqObj "list" its.toArray 0) := e.symm.trans hb
    cases e'
    intro c
    exact absurd (Value.type.inj c) (by decide)
  · have h3 : ∀ u ∈ out, ∃ a, u = Value.ref a := fun u hu => e2 u (hb.perm.mem_iff.mp hu)
    obtain ⟨n, hn⟩ := sortedAll_at s.heap its out.toArray
    have hd' : s.heap.objs.size ≤ s.heap.objs.size + 1 := Nat.le_succ _
    have key := q (out.map fun u => (backV u, TS.intsOf s.heap u)) (s.heap.objs.size + 1) (by rw [z1]; exact hb.perm.map _) (List.pairwise_map.mpr hs) (I.hok.fresh hd')
    rw [List.map_map] at key
    refine ⟨.ref (s.heap.objs.size + 1), upd H (s.heap.objs.size + 1) (.lst (out.map backV)), I.laid (t' := s.toks) (fun b o e => sortedAll_old e) hd' ⟨?_, out, n, vals_back h3, hn⟩, rfl, key⟩
    rw [List.length_map, hb.len, ← rv.length]
    exact hz
end
/-! ### by trees -/
def rowD (l : List Int) : D := .tup (l.map D.int)
def rowsOf : List D → Option (List (List Int))
  | [] => some []
  | .tup ds :: r => (match intsOf ds with | some ns => (rowsOf r).map (ns :: ·) | none => none)
  | _ => none
theorem intsOf_eq : ∀ {ds : List D} {ns : List Int}, intsOf ds = some ns → ds = ns.map D.int
  | [], _, h => by simp only [intsOf, Option.some.injEq] at h; subst h; rfl
  | d :: ds, ns, h => by
    cases d with
    | int i =>
      simp only [intsOf] at h
      cases q : intsOf ds with
      | none => rw [q] at h; cases h
      | some ms =>
        rw [q] at h
        simp only [Option.map_some, Option.some.injEq] at h
        subst h
        rw [List.map_cons, ← intsOf_eq q]
    | _ => simp [intsOf] at h
theorem rowsOf_eq : ∀ {ds : List D} {L : List (List Int)}, rowsOf ds = some L → ds = L.map rowD
  | [], _, h => by simp only [rowsOf, Option.some.injEq] at h; subst h; rfl
  | d :: ds, L, h => by
    cases d with
    | tup xs =>
      simp only [rowsOf] at h
      cases q : intsOf xs with
      | none => rw [q] at h; cases h
      | some ns =>
        rw [q] at h
        dsimp only at h
        cases q2 : rowsOf ds with
        | none => rw [q2] at h; cases h
        | some M =>
          rw [q2] at h
          simp only [Option.map_some, Option.some.injEq] at h
          subst h
          rw [List.map_cons, ← rowsOf_eq q2]
          show _ = D.tup _ :: _
          rw [← intsOf_eq q]
    | _ => simp [rowsOf] at h
theorem rowsOf_map : ∀ L : List (List Int), rowsOf (L.map rowD) = some L
  | [] => rfl
  | l :: L => by
    show (match intsOf (l.map D.int) with | some ns => (rowsOf (L.map rowD)).map (ns :: ·) | none => none) = _
    rw [intsOf_map, rowsOf_map L]
    rfl
/-- sorted(xs): ints, or tuples of as many ints each -/
def sortM : M1 := fun p δ μ C => match lget δ μ p with
  | some ds => (match intsOf ds with
    | some ns => ∀ ns' : List Int, ns'.Perm ns → ns'.Pairwise (· ≤ ·) → ∀ a, C (.own a (ns'.map D.int)) μ
    | none => (match rowsOf ds with
      | some L => (∃ d, 1 ≤ d ∧ ∀ l ∈ L, l.length = d) ∧ ∀ L' : List (List Int), L'.Perm L → L'.Pairwise (fun x y => lexI y x = false) → ∀ a, C (.own a (L'.map rowD)) μ
      | none => False))
  | none => False
theorem call_sorted {X : Cx} : CallR X (.builtin "sorted") (fun vs H Q => rSortedI X.K vs H Q ∨ rSortR X.K vs H Q) := fun pins s σ H vs us Q I r h => h.elim (cr_sortedI pins s σ H vs us Q I r) (cr_sortR pins s σ H vs us Q I r)
theorem reps_zs {K : PySem.W.Frag} {ρ : List Addr} {H : Hp} : ∀ {zs : List (V × List Int)}, (∀ z ∈ zs, Rep K ρ H (rowD z.2) z.1) → Reps K ρ H ((zs.map (·.2)).map rowD) (zs.map (·.1))
  | [], _ => reps_nil
  | z :: zs, h => reps_cons (h z List.mem_cons_self) (reps_zs fun y hy => h y (List.mem_cons_of_mem _ hy))
theorem reps_zip {K : PySem.W.Frag} {ρ : List Addr} {H : Hp} : ∀ {L : List (List Int)} {xs : List V}, Reps K ρ H (L.map rowD) xs → xs.length = L.length ∧ ∀ z ∈ xs.zip L, Rep K ρ H (rowD z.2) z.1
  | [], _, h => by
    simp only [List.map_nil, Reps] at h
    subst h
    exact ⟨rfl, fun z hz => by simp at hz⟩
  | l :: L, _, h => by
    simp only [List.map_cons, Reps] at h
    obtain ⟨v, r, rfl, h1, h2⟩ := h
    obtain ⟨e1, e2⟩ := reps_zip h2
    refine ⟨by simp [e1], fun z hz => ?_⟩
    rw [List.zip_cons_cons] at hz
    rcases List.mem_cons.mp hz with q | q
    · rw [q]; exact h1
    · exact e2 z q
theorem br_sort {K : PySem.W.Frag} : Br1 K (fun x H Q => rSortedI K [x] H Q ∨ rSortR K [x] H Q) sortM := by
  intro ρ μ δ σ H p x C Q ho rp ap c hC
  unfold sortM at c
  split at c
  · rename_i ds hl
    obtain ⟨a, xs, rfl, e2, e3⟩ := lget_ok ho rp hl
    split at c
    · rename_i ns hn
      rw [intsOf_ok e3 hn] at e2
      refine .inl ⟨a, ns, rfl, e2, fun ns' q h1 h2 nq => ?_⟩
      have rs : Reps K ρ H (ns'.map D.int) (ns'.map V.int) := reps_ints ns'
      obtain ⟨ev, rp'⟩ := ho.newList nq rs
      exact hC _ _ (c ns' h1 h2 q) _ _ _ ev rp'
    · split at c
      · rename_i L hL
        obtain ⟨⟨d, d1, dl⟩, c⟩ := c
        have e4 := rowsOf_eq hL
        subst e4
        obtain ⟨len, zr⟩ := reps_zip e3
        refine .inr ⟨a, xs, L, d, rfl, e2, d1, len, fun z hz => ?_, fun zs q h1 h2 nq => ?_⟩
        · have r := zr z hz
          simp only [rowD, Rep] at r
          obtain ⟨t, ys, g1, g2, g3⟩ := r
          rw [intsOf_ok g3 (intsOf_map _)] at g2
          exact ⟨t, g1, g2.seq, dl _ (List.of_mem_zip hz).2⟩
        · have hm : ∀ z ∈ zs, Rep K ρ H (rowD z.2) z.1 := fun z hz => zr z (h1.mem_iff.mp hz)
          obtain ⟨ev, rp'⟩ := ho.newList nq (reps_zs hm)
          have perm : (zs.map (·.2)).Perm L := by
            have := h1.map (·.2)
            rwa [List.map_snd_zip (by omega)] at this
          exact hC _ _ (c _ perm (List.pairwise_map.mpr h2) q) _ _ _ ev rp'
      · exact c.elim
  · exact c.elim
section
variable {X : Cx} {W : WX} {a : Expr} {fa : FE} {p pos : Pos}
theorem e_sorted (hm : X.mg "sorted" = none) (ha : EF X W a fa) (hg : Gl X "sorted" := by rfl) (he : starEach [a] X.env = (false, eval a X.env) :: starEach [] X.env := by rfl) : EF X W (.Call (.Name "sorted" p) [a] [] pos) (eOp1 sortM fa) :=
  e_callB call_sorted br_sort hm (by decide +kernel) ha hg (by decide) (by decide) he
end
end NT

/-! NT: data that is short when shown; _law_same. -/
namespace NT
open PySem PySem.Spec PyProof.Rows L2

mutual
/-- ints of 64 bits, bools, None, rows of such -/
def D.small : D → Bool
  | .non => true
  | .bl _ => true
  | .int i => decide (i.natAbs < 2 ^ 64)
  | .str _ => false
  | .tup ds => D.smalls ds
  | .lst ds => D.smalls ds
  | .kls ds => D.smalls ds
  | .ref _ => false
def D.smalls : List D → Bool
  | [] => true
  | d :: ds => d.small && D.smalls ds
end
mutual
def D.nd : D → Nat
  | .tup ds => 1 + D.nds ds
  | .lst ds => 1 + D.nds ds
  | .kls ds => 1 + D.nds ds
  | _ => 1
def D.nds : List D → Nat
  | [] => 0
  | d :: ds => d.nd + D.nds ds
end
theorem log_small {i : Int} (h : i.natAbs < 2 ^ 64) : i.natAbs.log2 < 64 := PySem.Flt.log2_lt_of (k := 64) (by decide) h
theorem pys_len : ∀ ds : List D, (PyData.shownAll (D.pys ds)).length = ds.length
  | [] => by simp only [D.pys, PyData.shownAll, List.length_nil]
  | d :: ds => by simp only [D.pys, PyData.shownAll, List.length_cons, pys_len ds]
mutual
theorem show_small : ∀ d : D, d.small = true → d.py.showable = true ∧ d.py.shown.length + 2 ≤ 100 * d.nd
  | .non, _ => by simp only [D.py, PyData.showable, PyData.shown, D.nd]; exact ⟨trivial, by decide +kernel⟩
  | .bl true, _ => by simp only [D.py, PyData.showable, PyData.shown, D.nd]; exact ⟨trivial, by decide +kernel⟩
  | .bl false, _ => by simp only [D.py, PyData.showable, PyData.shown, D.nd]; exact ⟨trivial, by decide +kernel⟩
  | .int i, h => by
    simp only [D.small, decide_eq_true_eq] at h
    have l := log_small h
    simp only [D.py, PyData.showable, PyData.shown, D.nd]
    refine ⟨decide_eq_true (Nat.lt_trans l (by decide)), ?_⟩
    have : (Str.ofString (toString i)).length ≤ 65 := by
      rw [PySem.ofString_length]
      exact int_text_length_le (k := 64) (by decide) l
    exact Nat.le_trans (Nat.add_le_add_right this 2) (by decide)
  | .str _, h => by simp [D.small] at h
  | .ref _, h => by simp [D.small] at h
  | .tup ds, h => by
    simp only [D.small] at h
    obtain ⟨h1, h2⟩ := show_smalls ds h
    simp only [D.py, PyData.showable, PyData.shown, D.nd]
    have := tupleText_len_le (PyData.shownAll (D.pys ds))
    rw [pys_len] at this
    exact ⟨h1, by omega⟩
  | .lst ds, h => by
    simp only [D.small] at h
    obtain ⟨h1, h2⟩ := show_smalls ds h
    simp only [D.py, PyData.showable, PyData.shown, D.nd]
    have := listText_len_le (PyData.shownAll (D.pys ds))
    rw [pys_len] at this
    exact ⟨h1, by omega⟩
  | .kls ds, h => by
    simp only [D.small] at h
    obtain ⟨h1, h2⟩ := show_smalls ds h
    simp only [D.py, PyData.showable, PyData.shown, D.nd]
    have := listText_len_le (PyData.shownAll (D.pys ds))
    rw [pys_len] at this
    exact ⟨h1, by omega⟩
theorem show_smalls : ∀ ds : List D, D.smalls ds = true → PyData.showableAll (D.pys ds) = true ∧ ((PyData.shownAll (D.pys ds)).map (·.length)).sum + 2 * ds.length ≤ 100 * D.nds ds
  | [], _ => by simp [D.pys, PyData.showableAll, PyData.shownAll, D.nds]
  | d :: ds, h => by
    simp only [D.smalls, Bool.and_eq_true] at h
    obtain ⟨a1, a2⟩ := show_small d h.1
    obtain ⟨b1, b2⟩ := show_smalls ds h.2
    simp only [D.pys, PyData.showableAll, PyData.shownAll, D.nds, List.map_cons, List.sum_cons, List.length_cons, a1, b1, Bool.and_self, true_and]
    omega
end
theorem reprOk_small {d : D} (h1 : d.ok 60 = true) (h2 : d.small = true) (h3 : d.nd ≤ 100000) : ReprOk d := by
  obtain ⟨a, b⟩ := show_small d h2
  refine ⟨h1, a, ?_⟩
  have : sizeLine = 16777216 := by decide
  omega
theorem ok_le : ∀ (n : Nat) (d : D), d.ok n = true → ∀ m, n ≤ m → d.ok m = true
  | 0, d, h, m, _ => by
    cases d with
    | tup ds => simp [D.ok] at h
    | lst ds => simp [D.ok] at h
    | kls ds => simp [D.ok] at h
    | ref k => simp [D.ok] at h
    | str s => rw [ok_str] at h ⊢; exact h
    | non => exact ok_non
    | bl b => exact ok_bl
    | int i => exact ok_int
  | n + 1, d, h, 0, hm => absurd hm (by omega)
  | n + 1, d, h, m + 1, hm => by
    have hm' : n ≤ m := by omega
    cases d with
    | tup ds => rw [ok_tup, List.all_eq_true] at h ⊢; exact fun x hx => ok_le n x (h x hx) m hm'
    | lst ds => rw [ok_lst, List.all_eq_true] at h ⊢; exact fun x hx => ok_le n x (h x hx) m hm'
    | kls ds =>
      have h' : ds.all (D.ok n) = true := h
      show ds.all (D.ok m) = true
      rw [List.all_eq_true] at h' ⊢
      exact fun x hx => ok_le n x (h' x hx) m hm'
    | ref k => simp [D.ok] at h
    | str s => rw [ok_str] at h ⊢; exact h
    | non => exact ok_non
    | bl b => exact ok_bl
    | int i => exact ok_int
theorem eqM_same {d : D} {neg : Bool} {δ : Sl} {μ : Mu} {C : P → Mu → Prop} (h : d.ok 64 = true) : eqM neg (.val d) (.val d) δ μ C = C (.val (.bl (!neg))) μ := by
  have n := D.ok_noref _ _ h
  have e := D.eqb_refl d n
  cases d with
  | ref k => simp [D.noref] at n
  | str s =>
    show C (.val (.bl (if neg then !(s == s) else s == s))) μ = _
    cases neg <;> simp
  | _ =>
    simp only [eqM, pd, h, e, and_self, true_and]
    cases neg <;> rfl
/-! ### _law_same(d, d) -/
def bSame : FS := fRet (eAnd2 (eOp2 (eqM false) (eVar 0) (eVar 1)) (eOp2 (eqM false) (eOp1 reprM (eVar 0)) (eOp1 reprM (eVar 1))))
theorem same_i {i : Int} {μ : Mu} {C : P → Mu → Prop} {E : CX} (h : i.natAbs.log2 < 1920) (hC : C (.val (.bl true)) μ) : fnDen 2 2 bSame [.int i, .int i] μ C E := by
  refine ⟨rfl, ?_⟩
  simp only [bSame, fRet, eAnd2, eOp2, eVar, List.map_cons, List.map_nil, List.cons_append, List.nil_append, List.getElem?_cons_zero, List.getElem?_cons_succ, eqM_i, beq_self_eq_true, Bool.false_eq_true, if_false, if_true, eOp1, reprM, h, true_and, eqM_s]
  exact hC
theorem same_t {ds : List D} {μ : Mu} {C : P → Mu → Prop} {E : CX} (h1 : (D.tup ds).ok 60 = true) (h2 : (D.tup ds).small = true) (h3 : (D.tup ds).nd ≤ 100000) (hC : C (.val (.bl true)) μ) : fnDen 2 2 bSame [.tup ds, .tup ds] μ C E := by
  have r := reprOk_small h1 h2 h3
  have o := ok_le 60 _ h1 64 (by decide)
  refine ⟨rfl, ?_⟩
  simp only [bSame, fRet, eAnd2, eOp2, eVar, List.map_cons, List.map_nil, List.cons_append, List.nil_append, List.getElem?_cons_zero, List.getElem?_cons_succ, eqM_same o, Bool.not_false, if_true, eOp1, reprM, pd, r, true_and, eqM_s, beq_self_eq_true, Bool.false_eq_true, if_false]
  exact hC
/-- sorted(xs) of rows -/
theorem sortM_rows {p : P} {δ : Sl} {μ : Mu} {C : P → Mu → Prop} {L : List (List Int)} {d : Nat} (hl : lget δ μ p = some (L.map rowD)) (h1 : 1 ≤ d) (h2 : ∀ l ∈ L, l.length = d) (hC : ∀ L' : List (List Int), L'.Perm L → L'.Pairwise (fun x y => lexI y x = false) → ∀ a, C (.own a (L'.map rowD)) μ) : sortM p δ μ C := by
  unfold sortM
  rw [hl]
  cases L with
  | nil =>
    show ∀ ns' : List Int, ns'.Perm [] → ns'.Pairwise (· ≤ ·) → ∀ a, C (.own a (ns'.map D.int)) μ
    intro ns' hp _ a
    have e : ns' = [] := List.length_eq_zero_iff.mp (by simpa using hp.length_eq)
    subst e
    exact hC [] (List.Perm.refl _) List.Pairwise.nil a
  | cons l L =>
    have e1 : intsOf ((l :: L).map rowD) = none := rfl
    simp only [e1, rowsOf_map]
    exact ⟨⟨d, h1, h2⟩, hC⟩
theorem sortM_ints {p : P} {δ : Sl} {μ : Mu} {C : P → Mu → Prop} {ns : List Int} (hl : lget δ μ p = some (ns.map D.int)) (hC : ∀ ns' : List Int, ns'.Perm ns → ns'.Pairwise (· ≤ ·) → ∀ a, C (.own a (ns'.map D.int)) μ) : sortM p δ μ C := by
  unfold sortM
  rw [hl]
  simp only [intsOf_map]
  exact hC
/-! ### == of lists -/
theorem eqM_pd {p q : P} {neg : Bool} {x y : D} {δ : Sl} {μ : Mu} {C : P → Mu → Prop} (hp : pd δ μ p = some x) (hq : pd δ μ q = some y) (hs : ∀ s, p ≠ .val (.str s)) : eqM neg p q δ μ C = ((x.ok 64 = true ∧ y.ok 64 = true) ∧ C (.val (.bl (if neg then !(D.eqb x y) else D.eqb x y))) μ) := by
  unfold eqM
  split
  · rename_i s t
    exact absurd rfl (hs s)
  · simp only [hp, hq]
/-! ### slices at one end -/
theorem cut_pre {α : Type} {xs : List α} {x : Int} {k : Nat} (hx : x = k) : cutL xs none (some x) = xs.take k := by
  subst hx
  unfold cutL
  rw [HT.sIx_none, HT.sIx_nat, List.drop_zero, Nat.sub_zero]
  by_cases h : k ≤ xs.length
  · rw [Nat.min_eq_left h]
  · rw [Nat.min_eq_right (by omega), List.take_of_length_le (by omega), List.take_of_length_le (by omega)]
theorem cut_post {α : Type} {xs : List α} {x : Int} {k : Nat} (hx : x = k) : cutL xs (some x) none = xs.drop k := by
  subst hx
  unfold cutL
  rw [HT.sIx_none, HT.sIx_nat]
  by_cases h : k ≤ xs.length
  · rw [Nat.min_eq_left h, List.take_of_length_le (by rw [List.length_drop]; omega)]
  · rw [Nat.min_eq_right (by omega), List.drop_eq_nil_of_le (by omega), List.drop_eq_nil_of_le (by omega)]
    simp
theorem cut_last {α : Type} {xs : List α} : cutL xs none (some (-1)) = xs.dropLast := by
  unfold cutL
  rw [HT.sIx_none, List.drop_zero, Nat.sub_zero]
  have e : HT.sIx xs.length xs.length (some (-1)) = xs.length - 1 := by
    unfold HT.sIx
    simp only [show ((-1 : Int) < 0) = True by decide, if_true]
    omega
  rw [e, List.dropLast_eq_take]
theorem at_last {α : Type} {xs : List α} {v : α} (h : xs.getLast? = some v) : atI xs (-1) = some v := by
  obtain ⟨ys, rfl⟩ := List.getLast?_eq_some_iff.mp h
  exact atI_last ys v
end NT

/-! nothingtwice_k68_what_must_be_through_fi: the walk. -/
namespace K68
open PySem PySem.Spec PyProof.Rows L2 NT
def top (i : Nat) : Stmt := PySem.Challenge.pw_nothingtwice_k68_what_must_be_through_fi.main.body.getD i (.Pass ⟨0, 0, 0, 0⟩)
abbrev s_Haste_init : Stmt := (inClass (top 1) 0)
abbrev s_Haste_now : Stmt := (inClass (top 1) 1)
abbrev s_Haste_put : Stmt := (inClass (top 1) 2)
abbrev s_Haste_waiting : Stmt := (inClass (top 1) 3)
abbrev s_Haste_late : Stmt := (inClass (top 1) 4)
abbrev s_Haste_overdue : Stmt := (inClass (top 1) 5)
abbrev s_Haste_tick : Stmt := (inClass (top 1) 6)
abbrev s_law_draw : Stmt := (top 3)
abbrev s_law_take : Stmt := (top 4)
abbrev s_law_same : Stmt := (top 5)
abbrev s_law : Stmt := (top 6)
theorem sc_Haste_init : FnScope ["self", "line"] ["self", "line"] (defScope s_Haste_init) := ⟨rfl, rfl, rfl, by decide +kernel, rfl, by decide +kernel, by decide +kernel⟩
theorem sc_Haste_now : FnScope ["self"] ["self"] (defScope s_Haste_now) := ⟨rfl, rfl, rfl, by decide +kernel, rfl, by decide +kernel, by decide +kernel⟩
theorem sc_Haste_put : FnScope ["self", "size", "deadline"] ["self", "size", "deadline"] (defScope s_Haste_put) := ⟨rfl, rfl, rfl, by decide +kernel, rfl, by decide +kernel, by decide +kernel⟩
theorem sc_Haste_waiting : FnScope ["self", "_", "size"] ["self"] (defScope s_Haste_waiting) := ⟨rfl, rfl, rfl, by decide +kernel, rfl, by decide +kernel, by decide +kernel⟩
theorem sc_Haste_late : FnScope ["self"] ["self"] (defScope s_Haste_late) := ⟨rfl, rfl, rfl, by decide +kernel, rfl, by decide +kernel, by decide +kernel⟩
theorem sc_Haste_overdue : FnScope ["self", "due", "_", "size"] ["self"] (defScope s_Haste_overdue) := ⟨rfl, rfl, rfl, by decide +kernel, rfl, by decide +kernel, by decide +kernel⟩
theorem sc_Haste_tick : FnScope ["self", "left", "found", "kept", "due", "number", "size", "part"] ["self"] (defScope s_Haste_tick) := ⟨rfl, rfl, rfl, by decide +kernel, rfl, by decide +kernel, by decide +kernel⟩
theorem sc_law_draw : FnScope ["script", "seed", "cell"] ["script"] (defScope s_law_draw) := ⟨rfl, rfl, rfl, by decide +kernel, rfl, by decide +kernel, by decide +kernel⟩
theorem sc_law_take : FnScope ["draw", "many", "found"] ["draw", "many"] (defScope s_law_take) := ⟨rfl, rfl, rfl, by decide +kernel, rfl, by decide +kernel, by decide +kernel⟩
theorem sc_law_same : FnScope ["actual", "due"] ["actual", "due"] (defScope s_law_same) := ⟨rfl, rfl, rfl, by decide +kernel, rfl, by decide +kernel, by decide +kernel⟩
theorem sc_law : FnScope ["script", "draw", "turn", "line", "haste", "octets", "late", "many", "whole", "tick", "k", "size", "deadline", "gone", "due", "own", "state"] ["script"] (defScope s_law) := ⟨rfl, rfl, rfl, by decide +kernel, rfl, by decide +kernel, by decide +kernel⟩
/-- where the text's things stand -/
structure Ad where
  c_Haste : Addr
  f_Haste_init : Addr
  f_Haste_now : Addr
  f_Haste_put : Addr
  f_Haste_waiting : Addr
  f_Haste_late : Addr
  f_Haste_overdue : Addr
  f_Haste_tick : Addr
  f_law_draw : Addr
  f_law_take : Addr
  f_law_same : Addr
  f_law : Addr
/-! ### what the defs do -/
def b_Haste_init (K : PySem.W.Frag) (a : Ad) : FS := fCons (fAsg (eVar 1) (gFd K "_line" (eVar 0))) (fCons (fAsg (eVal (.int 0)) (gFd K "_now" (eVar 0))) (fCons (fAsg (eVal (.int 0)) (gFd K "_many" (eVar 0))) (fCons (fAsg (eLst (aNil)) (gFd K "_things" (eVar 0))) (fAsg (eVal (.int 0)) (gFd K "_late" (eVar 0))))))
def d_Haste_init (K : PySem.W.Frag) (a : Ad) : FN := fnDen 2 2 (b_Haste_init K a)
def b_Haste_now (K : PySem.W.Frag) (a : Ad) : FS := fRet (eFld K "_now" (eVar 0))
def d_Haste_now (K : PySem.W.Frag) (a : Ad) : FN := fnDen 1 1 (b_Haste_now K a)
def b_Haste_put (K : PySem.W.Frag) (a : Ad) : FS := fCons (fApp (eFld K "_things" (eVar 0)) (eTup (aCons (eOp2 subM (eOp2 addM (eFld K "_now" (eVar 0)) (eVar 2)) (eVal (.int 1))) (aCons (eFld K "_many" (eVar 0)) (aCons (eVar 1) (aNil)))))) (fCons (fAugF K "_many" intAddM (eVar 0) (eVal (.int 1))) (fRet (eOp2 subM (eFld K "_many" (eVar 0)) (eVal (.int 1)))))
def d_Haste_put (K : PySem.W.Frag) (a : Ad) : FN := fnDen 3 3 (b_Haste_put K a)
def b_Haste_waiting (K : PySem.W.Frag) (a : Ad) : FS := fRet (eOp1 sumM (eLc (iSeq (eFld K "_things" (eVar 0))) (pTp 3 (psCons (pNm 1) (psCons (pNm 1) (psCons (pNm 2) (psNil))))) (tYesD) (eVar 2) [1, 1, 2]))
def d_Haste_waiting (K : PySem.W.Frag) (a : Ad) : FN := fnDen 1 3 (b_Haste_waiting K a)
def b_Haste_late (K : PySem.W.Frag) (a : Ad) : FS := fRet (eFld K "_late" (eVar 0))
def d_Haste_late (K : PySem.W.Frag) (a : Ad) : FN := fnDen 1 1 (b_Haste_late K a)
def b_Haste_overdue (K : PySem.W.Frag) (a : Ad) : FS := fRet (eOp1 sumM (eLc (iSeq (eFld K "_things" (eVar 0))) (pTp 3 (psCons (pNm 1) (psCons (pNm 2) (psCons (pNm 3) (psNil))))) (tBool (eOp2 (cmpM fun i j => decide (i < j)) (eVar 1) (eFld K "_now" (eVar 0)))) (eVar 3) [1, 2, 3]))
def d_Haste_overdue (K : PySem.W.Frag) (a : Ad) : FN := fnDen 1 4 (b_Haste_overdue K a)
def L_Haste_tick_1 (K : PySem.W.Frag) (a : Ad) : FS := fFor (iSeq (eOp1 sortM (eFld K "_things" (eVar 0)))) (gTp 3 (gsCons (gNm 4) (gsCons (gNm 5) (gsCons (gNm 6) (gsNil))))) (fCons (fAsg (eOp2 min2M (eVar 6) (eVar 1)) (gNm 7)) (fCons (fIfS (tBool (eOp2 (cmpM fun i j => decide (j < i)) (eVar 7) (eVal (.int 0)))) (fCons (fApp (eVar 2) (eTup (aCons (eVar 5) (aCons (eVar 7) (aNil))))) (fAugF K "_late" intAddM (eVar 0) (eIf (tBool (eOp2 (cmpM fun i j => decide (j < i)) (eFld K "_now" (eVar 0)) (eVar 4))) (eVar 7) (eVal (.int 0))))) (fNil)) (fCons (fAugN 1 subM (eVar 7)) (fIfS (tBool (eOp2 (cmpM fun i j => decide (j < i)) (eVar 6) (eVar 7))) (fApp (eVar 3) (eTup (aCons (eVar 4) (aCons (eVar 5) (aCons (eOp2 subM (eVar 6) (eVar 7)) (aNil)))))) (fNil)))))
def b_Haste_tick (K : PySem.W.Frag) (a : Ad) : FS := fCons (fPar3 1 2 3 (lCons (eFld K "_line" (eVar 0)) (lCons (eLst (aNil)) (lCons (eLst (aNil)) (lNil))))) (fCons (L_Haste_tick_1 K a) (fCons (fAsg (eVar 3) (gFd K "_things" (eVar 0))) (fCons (fAugF K "_now" intAddM (eVar 0) (eVal (.int 1))) (fRet (eOp1 tupM (eVar 2))))))
def d_Haste_tick (K : PySem.W.Frag) (a : Ad) : FN := fnDen 1 8 (b_Haste_tick K a)
def L_law_draw_1 (K : PySem.W.Frag) (a : Ad) : FS := fFor (iSeq (eVar 0)) (gNm 2) (fAsg (eOp2 modM (eOp1 toIntM (eOp2 addM (eOp2 addM (eOp2 mulM (eVar 1) (eVal (.int 48271))) (eOp2 modM (eOp1 absM (eOp1 toIntM (eVar 2))) (eVal (.int 65521)))) (eVal (.int 1)))) (eVal (.int 2147483647))) (gNm 1))
def b_law_draw (K : PySem.W.Frag) (a : Ad) : FS := fCons (fAsg (eVal (.int 7)) (gNm 1)) (fCons (L_law_draw_1 K a) (fRet (eNew (aCons (eLc (iSeq (eVar 0)) (pNm 2) (tYesD) (eOp1 absM (eOp1 toIntM (eVar 2))) [2]) (aCons (eOp1 negM (eVal (.int 1))) (aCons (eVal (.int 0)) (aCons (eVar 1) (aNil))))))))
def d_law_draw (K : PySem.W.Frag) (a : Ad) : FN := fnDen 1 3 (b_law_draw K a)
def b_law_take (K : PySem.W.Frag) (a : Ad) : FS := fCons (fIfS (tBool (eOp2 (eqM false) (eOp2 ixM (eVar 0) (eVal (.int 2))) (eVal (.int 0)))) (fCons (fAsg (eOp2 addM (eOp2 ixM (eVar 0) (eVal (.int 1))) (eVal (.int 1))) (gIx (eVar 0) (eVal (.int 1)))) (fCons (fIfS (tBool (eOp2 (cmpM fun i j => decide (i < j)) (eOp2 ixM (eVar 0) (eVal (.int 1))) (eOp1 lenM (eOp2 ixM (eVar 0) (eVal (.int 0)))))) (fAsg (eOp2 ixM (eOp2 ixM (eVar 0) (eVal (.int 0))) (eOp2 ixM (eVar 0) (eVal (.int 1)))) (gIx (eVar 0) (eVal (.int 2)))) (fNil)) (fIfS (tBool (eOp2 (eqM false) (eOp2 ixM (eVar 0) (eVal (.int 2))) (eVal (.int 0)))) (fCons (fAsg (eOp2 modM (eOp1 toIntM (eOp2 addM (eOp2 mulM (eOp2 ixM (eVar 0) (eVal (.int 3))) (eVal (.int 48271))) (eVal (.int 11)))) (eVal (.int 2147483647))) (gIx (eVar 0) (eVal (.int 3)))) (fAsg (eOp2 ixM (eVar 0) (eVal (.int 3))) (gIx (eVar 0) (eVal (.int 2))))) (fNil)))) (fNil)) (fCons (fAsg (eOp2 modM (eOp1 toIntM (eOp2 ixM (eVar 0) (eVal (.int 2)))) (eVar 1)) (gNm 2)) (fCons (fAsg (eOp2 fdivM (eOp2 ixM (eVar 0) (eVal (.int 2))) (eVar 1)) (gIx (eVar 0) (eVal (.int 2)))) (fRet (eVar 2))))
def d_law_take (K : PySem.W.Frag) (a : Ad) : FN := fnDen 2 3 (b_law_take K a)
def b_law_same (K : PySem.W.Frag) (a : Ad) : FS := fRet (eAnd2 (eOp2 (eqM false) (eVar 0) (eVar 1)) (eOp2 (eqM false) (eOp1 reprM (eVar 0)) (eOp1 reprM (eVar 1))))
def d_law_same (K : PySem.W.Frag) (a : Ad) : FN := fnDen 2 2 (b_law_same K a)
def tbl_now (K : PySem.W.Frag) (a : Ad) : Addr → Option FN := fun c => if c = a.c_Haste then some (d_Haste_now K a) else none
def tbl_put (K : PySem.W.Frag) (a : Ad) : Addr → Option FN := fun c => if c = a.c_Haste then some (d_Haste_put K a) else none
def tbl_waiting (K : PySem.W.Frag) (a : Ad) : Addr → Option FN := fun c => if c = a.c_Haste then some (d_Haste_waiting K a) else none
def tbl_late (K : PySem.W.Frag) (a : Ad) : Addr → Option FN := fun c => if c = a.c_Haste then some (d_Haste_late K a) else none
def tbl_overdue (K : PySem.W.Frag) (a : Ad) : Addr → Option FN := fun c => if c = a.c_Haste then some (d_Haste_overdue K a) else none
def tbl_tick (K : PySem.W.Frag) (a : Ad) : Addr → Option FN := fun c => if c = a.c_Haste then some (d_Haste_tick K a) else none
def L_law_1 (K : PySem.W.Frag) (a : Ad) : FS := fFor (iRng1D (eCall (d_law_take K a) (aCons (eVar 1) (aCons (eVal (.int 3)) (aNil))))) (gNm 10) (fCons (fPar2 11 12 (lCons (eOp2 addM (eVal (.int 1)) (eCall (d_law_take K a) (aCons (eVar 1) (aCons (eVal (.int 14)) (aNil))))) (lCons (eOp2 addM (eVal (.int 1)) (eCall (d_law_take K a) (aCons (eVar 1) (aCons (eVal (.int 8)) (aNil))))) (lNil)))) (fCons (fIfS (tNot1 (tTru (eCall (d_law_same K a) (aCons (eMeth (tbl_put K a) "put" (eVar 4) (aCons (eVar 11) (aCons (eVar 12) (aNil)))) (aCons (eVar 7) (aNil)))))) (fRet (eVal (.bl false))) (fNil)) (fCons (fAsg (eOp2 addM (eVar 5) (eOp2 mulM (eLst (aCons (eTup (aCons (eOp2 subM (eOp2 addM (eVar 9) (eVar 12)) (eVal (.int 1))) (aCons (eVar 7) (aNil)))) (aNil))) (eVar 11))) (gNm 5)) (fAsg (eOp2 addM (eVar 7) (eVal (.int 1))) (gNm 7)))))
def L_law_2 (K : PySem.W.Frag) (a : Ad) : FS := fFor (iSeq (eVar 13)) (gNm 15) (fCons (fAsg (eOp2 addM (eVar 6) (eIf (tBool (eOp2 (cmpM fun i j => decide (i < j)) (eOp2 ixM (eVar 15) (eVal (.int 0))) (eVar 9))) (eVal (.int 1)) (eVal (.int 0)))) (gNm 6)) (fIfS (tAnd2 (tBool (eOp2 (eqM true) (eVar 14) (eLst (aNil)))) (tBool (eOp2 (eqM false) (eOp2 ixM (eOp2 ixM (eVar 14) (eOp1 negM (eVal (.int 1)))) (eVal (.int 0))) (eOp2 ixM (eVar 15) (eVal (.int 1)))))) (fAsg (eOp2 addM (eSl (eVar 14) (oNone) (oSome (eOp1 negM (eVal (.int 1))))) (eLst (aCons (eTup (aCons (eOp2 ixM (eVar 15) (eVal (.int 1))) (aCons (eOp2 addM (eOp2 ixM (eOp2 ixM (eVar 14) (eOp1 negM (eVal (.int 1)))) (eVal (.int 1))) (eVal (.int 1))) (aNil)))) (aNil)))) (gNm 14)) (fAsg (eOp2 addM (eVar 14) (eLst (aCons (eTup (aCons (eOp2 ixM (eVar 15) (eVal (.int 1))) (aCons (eVal (.int 1)) (aNil)))) (aNil)))) (gNm 14))))
def L_law_3 (K : PySem.W.Frag) (a : Ad) : FS := fFor (iRng1D (eOp2 addM (eVal (.int 12)) (eCall (d_law_take K a) (aCons (eVar 1) (aCons (eVal (.int 14)) (aNil)))))) (gNm 9) (fCons (L_law_1 K a) (fCons (fAsg (eOp1 sortM (eVar 5)) (gNm 5)) (fCons (fPar2 13 5 (lCons (eSl (eVar 5) (oNone) (oSome (eVar 3))) (lCons (eSl (eVar 5) (oSome (eVar 3)) (oNone)) (lNil)))) (fCons (fAsg (eLst (aNil)) (gNm 14)) (fCons (L_law_2 K a) (fCons (fAsg (eOp2 addM (eVar 8) (eOp1 lenM (eVar 13))) (gNm 8)) (fCons (fIfS (tOr2 (tNot1 (tTru (eCall (d_law_same K a) (aCons (eMeth (tbl_tick K a) "tick" (eVar 4) aNil) (aCons (eOp1 tupM (eVar 14)) (aNil)))))) (tNot1 (tTru (eCall (d_law_same K a) (aCons (eMeth (tbl_now K a) "now" (eVar 4) aNil) (aCons (eOp2 addM (eVar 9) (eVal (.int 1))) (aNil))))))) (fRet (eVal (.bl false))) (fNil)) (fCons (fAsg (eTup (aCons (eOp1 lenM (eVar 5)) (aCons (eVar 6) (aCons (eOp1 lenM (eLc (iSeq (eVar 5)) (pNm 15) (tBool (eOp2 (cmpM fun i j => decide (i < j)) (eOp2 ixM (eVar 15) (eVal (.int 0))) (eOp2 addM (eVar 9) (eVal (.int 1))))) (eVar 15) [15])) (aNil))))) (gNm 16)) (fCons (fIfS (tNot1 (tTru (eCall (d_law_same K a) (aCons (eTup (aCons (eMeth (tbl_waiting K a) "waiting" (eVar 4) aNil) (aCons (eMeth (tbl_late K a) "late" (eVar 4) aNil) (aCons (eMeth (tbl_overdue K a) "overdue" (eVar 4) aNil) (aNil))))) (aCons (eVar 16) (aNil)))))) (fRet (eVal (.bl false))) (fNil)) (fIfS (tAnd2 (tBool (eOp2 (eqM true) (eVar 5) (eLst (aNil)))) (tBool (eOp2 (eqM true) (eOp1 lenM (eVar 13)) (eVar 3)))) (fRet (eVal (.bl false))) (fNil)))))))))))
def L_law_4 (K : PySem.W.Frag) (a : Ad) : FS := fFor (iRng1D (eVal (.int 3))) (gNm 2) (fCons (fAsg (eOp2 addM (eVal (.int 1)) (eCall (d_law_take K a) (aCons (eVar 1) (aCons (eVal (.int 9)) (aNil))))) (gNm 3)) (fCons (fPar 5 (lCons (eMake a.c_Haste (d_Haste_init K a) (aCons (eVar 3) (aNil))) (lCons (eLst (aNil)) (lCons (eVal (.int 0)) (lCons (eVal (.int 0)) (lCons (eVal (.int 0)) (lNil)))))) (gsCons (gNm 4) (gsCons (gNm 5) (gsCons (gNm 6) (gsCons (gNm 7) (gsCons (gNm 8) (gsNil))))))) (fCons (L_law_3 K a) (fIfS (tBool (eOp2 (cmpM fun i j => decide (j < i)) (eVar 8) (eOp2 mulM (eVar 3) (eMeth (tbl_now K a) "now" (eVar 4) aNil)))) (fRet (eVal (.bl false))) (fNil)))))
def b_law (K : PySem.W.Frag) (a : Ad) : FS := fCons (fAsg (eCall (d_law_draw K a) (aCons (eVar 0) (aNil))) (gNm 1)) (fCons (L_law_4 K a) (fRet (eVal (.bl true))))
def d_law (K : PySem.W.Frag) (a : Ad) : FN := fnDen 1 17 (b_law K a)
/-- what the top has written -/
structure Tx (K : PySem.W.Frag) (mg : Str → Option Value) (a : Ad) : Prop where
  n_abs : mg "abs" = none
  n_int : mg "int" = none
  n_len : mg "len" = none
  n_min : mg "min" = none
  n_range : mg "range" = none
  n_repr : mg "repr" = none
  n_sorted : mg "sorted" = none
  n_sum : mg "sum" = none
  n_tuple : mg "tuple" = none
  g__law_draw : mg "_law_draw" = some (.ref a.f_law_draw)
  g__law_take : mg "_law_take" = some (.ref a.f_law_take)
  g__law_same : mg "_law_same" = some (.ref a.f_law_same)
  g_law : mg "law" = some (.ref a.f_law)
  g_Haste : mg "Haste" = some (.ref a.c_Haste)
  cl_Haste : Cls K a.c_Haste
  m_Haste : Mk K a.c_Haste a.f_Haste_init
  m_Haste_now : Meth K a.c_Haste "now" a.f_Haste_now
  m_Haste_put : Meth K a.c_Haste "put" a.f_Haste_put
  m_Haste_waiting : Meth K a.c_Haste "waiting" a.f_Haste_waiting
  m_Haste_late : Meth K a.c_Haste "late" a.f_Haste_late
  m_Haste_overdue : Meth K a.c_Haste "overdue" a.f_Haste_overdue
  m_Haste_tick : Meth K a.c_Haste "tick" a.f_Haste_tick
  n_Haste__line : NoAttr K a.c_Haste "_line"
  n_Haste__now : NoAttr K a.c_Haste "_now"
  n_Haste__many : NoAttr K a.c_Haste "_many"
  n_Haste__things : NoAttr K a.c_Haste "_things"
  n_Haste__late : NoAttr K a.c_Haste "_late"
section
variable {P : Program} {w : World} {K : PySem.W.Frag} {mg : Str → Option Value} {base : Heap} {a : Ad}
theorem ok_Haste_init (T : Tx K mg a) {fd : FuncData} (Fu : Fun K "__init__" "Haste.__init__" s_Haste_init a.f_Haste_init fd)  : FnG P w K mg base 1 a.f_Haste_init (d_Haste_init K a) := by
  have Sc := sc_Haste_init
  refine fnG_by (k := 0) Fu Sc (Fu.binds (ps := ["self", "line"]) fun _ _ _ _ _ _ us hl => match us, hl with | [_, _], _ => rfl) (by decide) fun X W cd A outer s H E hX hW room gu tk hp => ?_
  subst hX hW
  exact (b_cons (s_asg (e_var 1) (g_fd (e_var 0))) (b_cons (s_asg (e_int) (g_fd (e_var 0))) (b_cons (s_asg (e_int) (g_fd (e_var 0))) (b_cons (s_asg (e_lst (a_nil)) (g_fd (e_var 0))) (b_one (s_asg (e_int) (g_fd (e_var 0))))))))
theorem ok_Haste_now (T : Tx K mg a) {fd : FuncData} (Fu : Fun K "now" "Haste.now" s_Haste_now a.f_Haste_now fd)  : FnG P w K mg base 1 a.f_Haste_now (d_Haste_now K a) := by
  have Sc := sc_Haste_now
  refine fnG_by (k := 0) Fu Sc (Fu.binds (ps := ["self"]) fun _ _ _ _ _ _ us hl => match us, hl with | [_], _ => rfl) (by decide) fun X W cd A outer s H E hX hW room gu tk hp => ?_
  subst hX hW
  exact (b_one (s_ret (e_fld (e_var 0))))
theorem ok_Haste_put (T : Tx K mg a) {fd : FuncData} (Fu : Fun K "put" "Haste.put" s_Haste_put a.f_Haste_put fd)  : FnG P w K mg base 1 a.f_Haste_put (d_Haste_put K a) := by
  have Sc := sc_Haste_put
  refine fnG_by (k := 0) Fu Sc (Fu.binds (ps := ["self", "size", "deadline"]) fun _ _ _ _ _ _ us hl => match us, hl with | [_, _, _], _ => rfl) (by decide) fun X W cd A outer s H E hX hW room gu tk hp => ?_
  subst hX hW
  exact (b_cons (s_app (e_fld (e_var 0)) (e_tup (a_cons (e_sub (e_add (e_fld (e_var 0)) (e_var 2)) (e_int)) (a_cons (e_fld (e_var 0)) (a_cons (e_var 1) (a_nil)))))) (b_cons (s_augF iop_add br_intAdd (e_var 0) (e_int)) (b_one (s_ret (e_sub (e_fld (e_var 0)) (e_int))))))
theorem ok_Haste_waiting (T : Tx K mg a) {fd : FuncData} (Fu : Fun K "waiting" "Haste.waiting" s_Haste_waiting a.f_Haste_waiting fd)  : FnG P w K mg base 1 a.f_Haste_waiting (d_Haste_waiting K a) := by
  have Sc := sc_Haste_waiting
  refine fnG_by (k := 0) Fu Sc (Fu.binds (ps := ["self"]) fun _ _ _ _ _ _ us hl => match us, hl with | [_], _ => rfl) (by decide) fun X W cd A outer s H E hX hW room gu tk hp => ?_
  subst hX hW
  exact (b_one (s_ret (e_sum rfl T.n_sum (e_lc (own := [("_", 1), ("_", 1), ("size", 2)]) rfl Sc.nd (i_seq (e_fld (e_var 0))) (blkOk_by (N := ["self", "_", "size"]) (sc := defScope s_Haste_waiting) (by decide +kernel)) (by decide) (fun _ _ _ _ _ => p_tp rfl (ps_cons' (p_nm Sc.nd) (ps_cons' (p_nm Sc.nd) (ps_cons' (p_nm Sc.nd) (ps_nil'))))) (fun _ _ _ _ _ => ts_nil) (fun _ _ _ _ _ => e_var 2)))))
theorem ok_Haste_late (T : Tx K mg a) {fd : FuncData} (Fu : Fun K "late" "Haste.late" s_Haste_late a.f_Haste_late fd)  : FnG P w K mg base 1 a.f_Haste_late (d_Haste_late K a) := by
  have Sc := sc_Haste_late
  refine fnG_by (k := 0) Fu Sc (Fu.binds (ps := ["self"]) fun _ _ _ _ _ _ us hl => match us, hl with | [_], _ => rfl) (by decide) fun X W cd A outer s H E hX hW room gu tk hp => ?_
  subst hX hW
  exact (b_one (s_ret (e_fld (e_var 0))))
theorem ok_Haste_overdue (T : Tx K mg a) {fd : FuncData} (Fu : Fun K "overdue" "Haste.overdue" s_Haste_overdue a.f_Haste_overdue fd)  : FnG P w K mg base 1 a.f_Haste_overdue (d_Haste_overdue K a) := by
  have Sc := sc_Haste_overdue
  refine fnG_by (k := 0) Fu Sc (Fu.binds (ps := ["self"]) fun _ _ _ _ _ _ us hl => match us, hl with | [_], _ => rfl) (by decide) fun X W cd A outer s H E hX hW room gu tk hp => ?_
  subst hX hW
  exact (b_one (s_ret (e_sum rfl T.n_sum (e_lc (own := [("due", 1), ("_", 2), ("size", 3)]) rfl Sc.nd (i_seq (e_fld (e_var 0))) (blkOk_by (N := ["self", "due", "_", "size"]) (sc := defScope s_Haste_overdue) (by decide +kernel)) (by decide) (fun _ _ _ _ _ => p_tp rfl (ps_cons' (p_nm Sc.nd) (ps_cons' (p_nm Sc.nd) (ps_cons' (p_nm Sc.nd) (ps_nil'))))) (fun _ _ _ _ _ => ts_one (t_lt (e_var 1) (e_fld (e_var 0)))) (fun _ _ _ _ _ => e_var 3)))))
theorem ok_Haste_tick (T : Tx K mg a) {fd : FuncData} (Fu : Fun K "tick" "Haste.tick" s_Haste_tick a.f_Haste_tick fd)  : FnG P w K mg base 1 a.f_Haste_tick (d_Haste_tick K a) := by
  have Sc := sc_Haste_tick
  refine fnG_by (k := 0) Fu Sc (Fu.binds (ps := ["self"]) fun _ _ _ _ _ _ us hl => match us, hl with | [_], _ => rfl) (by decide) fun X W cd A outer s H E hX hW room gu tk hp => ?_
  subst hX hW
  exact (b_cons (s_par3 (i := 1) (j := 2) (m := 3) rfl Sc.nd (l_cons (e_fld (e_var 0)) (l_cons (e_lst (a_nil)) (l_cons (e_lst (a_nil)) (l_nil))))) (b_cons (s_for hp rfl (i_seq (e_sorted T.n_sorted (e_fld (e_var 0)))) (g_tp rfl (gs_cons (g_nm Sc.nd) (gs_cons (g_nm Sc.nd) (gs_cons (g_nm Sc.nd) (gs_nil))))) (b_cons (s_asg (e_min2 rfl T.n_min (e_var 6) (e_var 1)) (g_nm Sc.nd)) (b_cons (s_if (t_gt (e_var 7) (e_int)) (b_cons (s_app (e_var 2) (e_tup (a_cons (e_var 5) (a_cons (e_var 7) (a_nil))))) (b_one (s_augF iop_add br_intAdd (e_var 0) (e_if (t_gt (e_fld (e_var 0)) (e_var 4)) (e_var 7) (e_int))))) (b_nil)) (b_cons (s_augN Sc.nd iop_sub br_sub (e_var 7)) (b_one (s_if (t_gt (e_var 6) (e_var 7)) (b_one (s_app (e_var 3) (e_tup (a_cons (e_var 4) (a_cons (e_var 5) (a_cons (e_sub (e_var 6) (e_var 7)) (a_nil))))))) (b_nil))))))) (b_cons (s_asg (e_var 3) (g_fd (e_var 0))) (b_cons (s_augF iop_add br_intAdd (e_var 0) (e_int)) (b_one (s_ret (e_tuple T.n_tuple (e_var 2))))))))
theorem ok_law_draw (T : Tx K mg a) {fd : FuncData} (Fu : Fun K "_law_draw" "_law_draw" s_law_draw a.f_law_draw fd)  : FnG P w K mg base 1 a.f_law_draw (d_law_draw K a) := by
  have Sc := sc_law_draw
  refine fnG_by (k := 0) Fu Sc (Fu.binds (ps := ["script"]) fun _ _ _ _ _ _ us hl => match us, hl with | [_], _ => rfl) (by decide) fun X W cd A outer s H E hX hW room gu tk hp => ?_
  subst hX hW
  exact (b_cons (s_asg (e_int) (g_nm Sc.nd)) (b_cons (s_for hp rfl (i_seq (e_var 0)) (g_nm Sc.nd) (b_one (s_asg (e_mod (e_toInt T.n_int (e_add (e_add (e_mul (e_var 1) (e_int)) (e_mod (e_abs T.n_abs (e_toInt T.n_int (e_var 2))) (e_int))) (e_int))) (e_int)) (g_nm Sc.nd)))) (b_one (s_ret (e_new (a_cons (e_lc (own := [("cell", 2)]) rfl Sc.nd (i_seq (e_var 0)) (blkOk_by (N := ["script", "seed", "cell"]) (sc := defScope s_law_draw) (by decide +kernel)) (by decide) (fun _ _ _ _ _ => p_nm Sc.nd) (fun _ _ _ _ _ => ts_nil) (fun _ _ _ _ _ => e_abs T.n_abs (e_toInt T.n_int (e_var 2)))) (a_cons (e_neg (e_int)) (a_cons (e_int) (a_cons (e_var 1) (a_nil))))))))))
theorem ok_law_take (T : Tx K mg a) {fd : FuncData} (Fu : Fun K "_law_take" "_law_take" s_law_take a.f_law_take fd)  : FnG P w K mg base 1 a.f_law_take (d_law_take K a) := by
  have Sc := sc_law_take
  refine fnG_by (k := 0) Fu Sc (Fu.binds (ps := ["draw", "many"]) fun _ _ _ _ _ _ us hl => match us, hl with | [_, _], _ => rfl) (by decide) fun X W cd A outer s H E hX hW room gu tk hp => ?_
  subst hX hW
  exact (b_cons (s_if (t_eq (room.units) (e_ix (e_var 0) (e_int)) (e_int)) (b_cons (s_asg (e_add (e_ix (e_var 0) (e_int)) (e_int)) (g_ix (e_var 0) (e_int))) (b_cons (s_if (t_lt (e_ix (e_var 0) (e_int)) (e_len T.n_len (e_ix (e_var 0) (e_int)))) (b_one (s_asg (e_ix (e_ix (e_var 0) (e_int)) (e_ix (e_var 0) (e_int))) (g_ix (e_var 0) (e_int)))) (b_nil)) (b_one (s_if (t_eq (room.units) (e_ix (e_var 0) (e_int)) (e_int)) (b_cons (s_asg (e_mod (e_toInt T.n_int (e_add (e_mul (e_ix (e_var 0) (e_int)) (e_int)) (e_int))) (e_int)) (g_ix (e_var 0) (e_int))) (b_one (s_asg (e_ix (e_var 0) (e_int)) (g_ix (e_var 0) (e_int))))) (b_nil))))) (b_nil)) (b_cons (s_asg (e_mod (e_toInt T.n_int (e_ix (e_var 0) (e_int))) (e_var 1)) (g_nm Sc.nd)) (b_cons (s_asg (e_fdiv (e_ix (e_var 0) (e_int)) (e_var 1)) (g_ix (e_var 0) (e_int))) (b_one (s_ret (e_var 2))))))
theorem ok_law_same (T : Tx K mg a) {fd : FuncData} (Fu : Fun K "_law_same" "_law_same" s_law_same a.f_law_same fd)  : FnG P w K mg base 1 a.f_law_same (d_law_same K a) := by
  have Sc := sc_law_same
  refine fnG_by (k := 0) Fu Sc (Fu.binds (ps := ["actual", "due"]) fun _ _ _ _ _ _ us hl => match us, hl with | [_, _], _ => rfl) (by decide) fun X W cd A outer s H E hX hW room gu tk hp => ?_
  subst hX hW
  exact (b_one (s_ret (e_and (e_eq (room.units) (e_var 0) (e_var 1)) (e_one (e_eq (room.units) (e_repr (room.units) gu T.n_repr (e_var 0)) (e_repr (room.units) gu T.n_repr (e_var 1)))))))
theorem mt_now {X : Cx} {k : Nat} (T : Tx X.K X.mg a) (F0 : FnG X.prog X.w X.K X.mg X.base k (a.f_Haste_now) (d_Haste_now X.K a)) : MtOk X k "now" (tbl_now X.K a) := fun c g h => by
  unfold tbl_now at h
  split at h
  · rename_i e
    cases h
    subst e
    exact ⟨_, T.cl_Haste, T.m_Haste_now, F0⟩
  cases h
theorem mt_put {X : Cx} {k : Nat} (T : Tx X.K X.mg a) (F0 : FnG X.prog X.w X.K X.mg X.base k (a.f_Haste_put) (d_Haste_put X.K a)) : MtOk X k "put" (tbl_put X.K a) := fun c g h => by
  unfold tbl_put at h
  split at h
  · rename_i e
    cases h
    subst e
    exact ⟨_, T.cl_Haste, T.m_Haste_put, F0⟩
  cases h
theorem mt_waiting {X : Cx} {k : Nat} (T : Tx X.K X.mg a) (F0 : FnG X.prog X.w X.K X.mg X.base k (a.f_Haste_waiting) (d_Haste_waiting X.K a)) : MtOk X k "waiting" (tbl_waiting X.K a) := fun c g h => by
  unfold tbl_waiting at h
  split at h
  · rename_i e
    cases h
    subst e
    exact ⟨_, T.cl_Haste, T.m_Haste_waiting, F0⟩
  cases h
theorem mt_late {X : Cx} {k : Nat} (T : Tx X.K X.mg a) (F0 : FnG X.prog X.w X.K X.mg X.base k (a.f_Haste_late) (d_Haste_late X.K a)) : MtOk X k "late" (tbl_late X.K a) := fun c g h => by
  unfold tbl_late at h
  split at h
  · rename_i e
    cases h
    subst e
    exact ⟨_, T.cl_Haste, T.m_Haste_late, F0⟩
  cases h
theorem mt_overdue {X : Cx} {k : Nat} (T : Tx X.K X.mg a) (F0 : FnG X.prog X.w X.K X.mg X.base k (a.f_Haste_overdue) (d_Haste_overdue X.K a)) : MtOk X k "overdue" (tbl_overdue X.K a) := fun c g h => by
  unfold tbl_overdue at h
  split at h
  · rename_i e
    cases h
    subst e
    exact ⟨_, T.cl_Haste, T.m_Haste_overdue, F0⟩
  cases h
theorem mt_tick {X : Cx} {k : Nat} (T : Tx X.K X.mg a) (F0 : FnG X.prog X.w X.K X.mg X.base k (a.f_Haste_tick) (d_Haste_tick X.K a)) : MtOk X k "tick" (tbl_tick X.K a) := fun c g h => by
  unfold tbl_tick at h
  split at h
  · rename_i e
    cases h
    subst e
    exact ⟨_, T.cl_Haste, T.m_Haste_tick, F0⟩
  cases h
theorem ok_law (T : Tx K mg a) {fd : FuncData} (Fu : Fun K "law" "law" s_law a.f_law fd) (F_Haste_init : FnG P w K mg base 1 a.f_Haste_init (d_Haste_init K a)) (F_Haste_late : FnG P w K mg base 1 a.f_Haste_late (d_Haste_late K a)) (F_Haste_now : FnG P w K mg base 1 a.f_Haste_now (d_Haste_now K a)) (F_Haste_overdue : FnG P w K mg base 1 a.f_Haste_overdue (d_Haste_overdue K a)) (F_Haste_put : FnG P w K mg base 1 a.f_Haste_put (d_Haste_put K a)) (F_Haste_tick : FnG P w K mg base 1 a.f_Haste_tick (d_Haste_tick K a)) (F_Haste_waiting : FnG P w K mg base 1 a.f_Haste_waiting (d_Haste_waiting K a)) (F_law_draw : FnG P w K mg base 1 a.f_law_draw (d_law_draw K a)) (F_law_same : FnG P w K mg base 1 a.f_law_same (d_law_same K a)) (F_law_take : FnG P w K mg base 1 a.f_law_take (d_law_take K a)) : FnG P w K mg base 3 a.f_law (d_law K a) := by
  have Sc := sc_law
  refine fnG_by (k := 2) Fu Sc (Fu.binds (ps := ["script"]) fun _ _ _ _ _ _ us hl => match us, hl with | [_], _ => rfl) (by decide) fun X W cd A outer s H E hX hW room gu tk hp => ?_
  subst hX hW
  exact (b_cons (s_asg (e_call (F_law_draw.mono (by decide)) room gu tk T.g__law_draw (a_cons (e_var 0) (a_nil))) (g_nm Sc.nd)) (b_cons (s_for hp rfl (i_range1 T.n_range (e_int)) (g_nm Sc.nd) (b_cons (s_asg (e_add (e_int) (e_call (F_law_take.mono (by decide)) room gu tk T.g__law_take (a_cons (e_var 1) (a_cons (e_int) (a_nil))))) (g_nm Sc.nd)) (b_cons (s_par rfl (l_cons (e_make T.m_Haste (F_Haste_init.mono (by decide)) room gu tk T.g_Haste (a_cons (e_var 3) (a_nil))) (l_cons (e_lst (a_nil)) (l_cons (e_int) (l_cons (e_int) (l_cons (e_int) (l_nil)))))) (gs_cons (g_nm Sc.nd) (gs_cons (g_nm Sc.nd) (gs_cons (g_nm Sc.nd) (gs_cons (g_nm Sc.nd) (gs_cons (g_nm Sc.nd) (gs_nil))))))) (b_cons (s_for hp rfl (i_range1 T.n_range (e_add (e_int) (e_call (F_law_take.mono (by decide)) room gu tk T.g__law_take (a_cons (e_var 1) (a_cons (e_int) (a_nil)))))) (g_nm Sc.nd) (b_cons (s_for hp rfl (i_range1 T.n_range (e_call (F_law_take.mono (by decide)) room gu tk T.g__law_take (a_cons (e_var 1) (a_cons (e_int) (a_nil))))) (g_nm Sc.nd) (b_cons (s_par2 (i := 11) (j := 12) rfl Sc.nd (l_cons (e_add (e_int) (e_call (F_law_take.mono (by decide)) room gu tk T.g__law_take (a_cons (e_var 1) (a_cons (e_int) (a_nil))))) (l_cons (e_add (e_int) (e_call (F_law_take.mono (by decide)) room gu tk T.g__law_take (a_cons (e_var 1) (a_cons (e_int) (a_nil))))) (l_nil)))) (b_cons (s_if (t_not (t_tru (e_call (F_law_same.mono (by decide)) room gu tk T.g__law_same (a_cons (e_meth (mt_put T (F_Haste_put.mono (by decide))) room gu tk (e_var 4) (a_cons (e_var 11) (a_cons (e_var 12) (a_nil)))) (a_cons (e_var 7) (a_nil)))))) (b_one (s_ret (e_bl))) (b_nil)) (b_cons (s_asg (e_add (e_var 5) (e_mul (e_lst (a_cons (e_tup (a_cons (e_sub (e_add (e_var 9) (e_var 12)) (e_int)) (a_cons (e_var 7) (a_nil)))) (a_nil))) (e_var 11))) (g_nm Sc.nd)) (b_one (s_asg (e_add (e_var 7) (e_int)) (g_nm Sc.nd))))))) (b_cons (s_asg (e_sorted T.n_sorted (e_var 5)) (g_nm Sc.nd)) (b_cons (s_par2 (i := 13) (j := 5) rfl Sc.nd (l_cons (e_sl (e_var 5) (o_none) (o_some (e_var 3))) (l_cons (e_sl (e_var 5) (o_some (e_var 3)) (o_none)) (l_nil)))) (b_cons (s_asg (e_lst (a_nil)) (g_nm Sc.nd)) (b_cons (s_for hp rfl (i_seq (e_var 13)) (g_nm Sc.nd) (b_cons (s_asg (e_add (e_var 6) (e_if (t_lt (e_ix (e_var 15) (e_int)) (e_var 9)) (e_int) (e_int))) (g_nm Sc.nd)) (b_one (s_if (t_w (w_and (t_ne (room.units) (e_var 14) (e_lst (a_nil))) (w_and1 (t_eq (room.units) (e_ix (e_ix (e_var 14) (e_neg (e_int))) (e_int)) (e_ix (e_var 15) (e_int)))))) (b_one (s_asg (e_add (e_sl (e_var 14) (o_none) (o_some (e_neg (e_int)))) (e_lst (a_cons (e_tup (a_cons (e_ix (e_var 15) (e_int)) (a_cons (e_add (e_ix (e_ix (e_var 14) (e_neg (e_int))) (e_int)) (e_int)) (a_nil)))) (a_nil)))) (g_nm Sc.nd))) (b_one (s_asg (e_add (e_var 14) (e_lst (a_cons (e_tup (a_cons (e_ix (e_var 15) (e_int)) (a_cons (e_int) (a_nil)))) (a_nil)))) (g_nm Sc.nd))))))) (b_cons (s_asg (e_add (e_var 8) (e_len T.n_len (e_var 13))) (g_nm Sc.nd)) (b_cons (s_if (t_w (w_or (t_not (t_tru (e_call (F_law_same.mono (by decide)) room gu tk T.g__law_same (a_cons (e_meth0 (mt_tick T (F_Haste_tick.mono (by decide))) room gu tk (e_var 4)) (a_cons (e_tuple T.n_tuple (e_var 14)) (a_nil)))))) (w_or1 (t_not (t_tru (e_call (F_law_same.mono (by decide)) room gu tk T.g__law_same (a_cons (e_meth0 (mt_now T (F_Haste_now.mono (by decide))) room gu tk (e_var 4)) (a_cons (e_add (e_var 9) (e_int)) (a_nil))))))))) (b_one (s_ret (e_bl))) (b_nil)) (b_cons (s_asg (e_tup (a_cons (e_len T.n_len (e_var 5)) (a_cons (e_var 6) (a_cons (e_len T.n_len (e_lc (own := [("own", 15)]) rfl Sc.nd (i_seq (e_var 5)) (blkOk_by (N := ["script", "draw", "turn", "line", "haste", "octets", "late", "many", "whole", "tick", "k", "size", "deadline", "gone", "due", "own", "state"]) (sc := defScope s_law) (by decide +kernel)) (by decide) (fun _ _ _ _ _ => p_nm Sc.nd) (fun _ _ _ _ _ => ts_one (t_lt (e_ix (e_var 15) (e_int)) (e_add (e_var 9) (e_int)))) (fun _ _ _ _ _ => e_var 15))) (a_nil))))) (g_nm Sc.nd)) (b_cons (s_if (t_not (t_tru (e_call (F_law_same.mono (by decide)) room gu tk T.g__law_same (a_cons (e_tup (a_cons (e_meth0 (mt_waiting T (F_Haste_waiting.mono (by decide))) room gu tk (e_var 4)) (a_cons (e_meth0 (mt_late T (F_Haste_late.mono (by decide))) room gu tk (e_var 4)) (a_cons (e_meth0 (mt_overdue T (F_Haste_overdue.mono (by decide))) room gu tk (e_var 4)) (a_nil))))) (a_cons (e_var 16) (a_nil)))))) (b_one (s_ret (e_bl))) (b_nil)) (b_one (s_if (t_w (w_and (t_ne (room.units) (e_var 5) (e_lst (a_nil))) (w_and1 (t_ne (room.units) (e_len T.n_len (e_var 13)) (e_var 3))))) (b_one (s_ret (e_bl))) (b_nil))))))))))))) (b_one (s_if (t_gt (e_var 8) (e_mul (e_var 3) (e_meth0 (mt_now T (F_Haste_now.mono (by decide))) room gu tk (e_var 4)))) (b_one (s_ret (e_bl))) (b_nil))))))) (b_one (s_ret (e_bl)))))
end
/-! ### objects -/
def o_Haste (a : Ad) (p_line p_now p_many p_things p_late : P) : MO := .ins a.c_Haste [("_line", p_line), ("_now", p_now), ("_many", p_many), ("_things", p_things), ("_late", p_late)]
theorem lk_Haste__line {p_line p_now p_many p_things p_late : P} : List.lookup ("_line" : Str) [(("_line" : Str), p_line), (("_now" : Str), p_now), (("_many" : Str), p_many), (("_things" : Str), p_things), (("_late" : Str), p_late)] = some p_line := by rfl
theorem pi_Haste__line {v  : P} : putP ("_line" : Str) v [] = [(("_line" : Str), v)] := by rfl
theorem pt_Haste__line {v p_line p_now p_many p_things p_late : P} : putP ("_line" : Str) v [(("_line" : Str), p_line), (("_now" : Str), p_now), (("_many" : Str), p_many), (("_things" : Str), p_things), (("_late" : Str), p_late)] = [(("_line" : Str), v), (("_now" : Str), p_now), (("_many" : Str), p_many), (("_things" : Str), p_things), (("_late" : Str), p_late)] := by rfl
theorem fk_Haste__line {K : PySem.W.Frag} {mg : Str → Option Value} {a : Ad} (T : Tx K mg a) : FOk K a.c_Haste "_line" = True := eq_true ⟨T.cl_Haste, T.n_Haste__line⟩
theorem lk_Haste__now {p_line p_now p_many p_things p_late : P} : List.lookup ("_now" : Str) [(("_line" : Str), p_line), (("_now" : Str), p_now), (("_many" : Str), p_many), (("_things" : Str), p_things), (("_late" : Str), p_late)] = some p_now := by rfl
theorem pi_Haste__now {v p_line : P} : putP ("_now" : Str) v [(("_line" : Str), p_line)] = [(("_line" : Str), p_line), (("_now" : Str), v)] := by rfl
theorem pt_Haste__now {v p_line p_now p_many p_things p_late : P} : putP ("_now" : Str) v [(("_line" : Str), p_line), (("_now" : Str), p_now), (("_many" : Str), p_many), (("_things" : Str), p_things), (("_late" : Str), p_late)] = [(("_line" : Str), p_line), (("_now" : Str), v), (("_many" : Str), p_many), (("_things" : Str), p_things), (("_late" : Str), p_late)] := by rfl
theorem fk_Haste__now {K : PySem.W.Frag} {mg : Str → Option Value} {a : Ad} (T : Tx K mg a) : FOk K a.c_Haste "_now" = True := eq_true ⟨T.cl_Haste, T.n_Haste__now⟩
theorem lk_Haste__many {p_line p_now p_many p_things p_late : P} : List.lookup ("_many" : Str) [(("_line" : Str), p_line), (("_now" : Str), p_now), (("_many" : Str), p_many), (("_things" : Str), p_things), (("_late" : Str), p_late)] = some p_many := by rfl
theorem pi_Haste__many {v p_line p_now : P} : putP ("_many" : Str) v [(("_line" : Str), p_line), (("_now" : Str), p_now)] = [(("_line" : Str), p_line), (("_now" : Str), p_now), (("_many" : Str), v)] := by rfl
theorem pt_Haste__many {v p_line p_now p_many p_things p_late : P} : putP ("_many" : Str) v [(("_line" : Str), p_line), (("_now" : Str), p_now), (("_many" : Str), p_many), (("_things" : Str), p_things), (("_late" : Str), p_late)] = [(("_line" : Str), p_line), (("_now" : Str), p_now), (("_many" : Str), v), (("_things" : Str), p_things), (("_late" : Str), p_late)] := by rfl
theorem fk_Haste__many {K : PySem.W.Frag} {mg : Str → Option Value} {a : Ad} (T : Tx K mg a) : FOk K a.c_Haste "_many" = True := eq_true ⟨T.cl_Haste, T.n_Haste__many⟩
theorem lk_Haste__things {p_line p_now p_many p_things p_late : P} : List.lookup ("_things" : Str) [(("_line" : Str), p_line), (("_now" : Str), p_now), (("_many" : Str), p_many), (("_things" : Str), p_things), (("_late" : Str), p_late)] = some p_things := by rfl
theorem pi_Haste__things {v p_line p_now p_many : P} : putP ("_things" : Str) v [(("_line" : Str), p_line), (("_now" : Str), p_now), (("_many" : Str), p_many)] = [(("_line" : Str), p_line), (("_now" : Str), p_now), (("_many" : Str), p_many), (("_things" : Str), v)] := by rfl
theorem pt_Haste__things {v p_line p_now p_many p_things p_late : P} : putP ("_things" : Str) v [(("_line" : Str), p_line), (("_now" : Str), p_now), (("_many" : Str), p_many), (("_things" : Str), p_things), (("_late" : Str), p_late)] = [(("_line" : Str), p_line), (("_now" : Str), p_now), (("_many" : Str), p_many), (("_things" : Str), v), (("_late" : Str), p_late)] := by rfl
theorem fk_Haste__things {K : PySem.W.Frag} {mg : Str → Option Value} {a : Ad} (T : Tx K mg a) : FOk K a.c_Haste "_things" = True := eq_true ⟨T.cl_Haste, T.n_Haste__things⟩
theorem lk_Haste__late {p_line p_now p_many p_things p_late : P} : List.lookup ("_late" : Str) [(("_line" : Str), p_line), (("_now" : Str), p_now), (("_many" : Str), p_many), (("_things" : Str), p_things), (("_late" : Str), p_late)] = some p_late := by rfl
theorem pi_Haste__late {v p_line p_now p_many p_things : P} : putP ("_late" : Str) v [(("_line" : Str), p_line), (("_now" : Str), p_now), (("_many" : Str), p_many), (("_things" : Str), p_things)] = [(("_line" : Str), p_line), (("_now" : Str), p_now), (("_many" : Str), p_many), (("_things" : Str), p_things), (("_late" : Str), v)] := by rfl
theorem pt_Haste__late {v p_line p_now p_many p_things p_late : P} : putP ("_late" : Str) v [(("_line" : Str), p_line), (("_now" : Str), p_now), (("_many" : Str), p_many), (("_things" : Str), p_things), (("_late" : Str), p_late)] = [(("_line" : Str), p_line), (("_now" : Str), p_now), (("_many" : Str), p_many), (("_things" : Str), p_things), (("_late" : Str), v)] := by rfl
theorem fk_Haste__late {K : PySem.W.Frag} {mg : Str → Option Value} {a : Ad} (T : Tx K mg a) : FOk K a.c_Haste "_late" = True := eq_true ⟨T.cl_Haste, T.n_Haste__late⟩
theorem lm_Haste_now {p_line p_now p_many p_things p_late : P} : List.lookup ("now" : Str) [(("_line" : Str), p_line), (("_now" : Str), p_now), (("_many" : Str), p_many), (("_things" : Str), p_things), (("_late" : Str), p_late)] = none := by rfl
theorem tb_Haste_now {K : PySem.W.Frag} {a : Ad} : tbl_now K a a.c_Haste = some (d_Haste_now K a) := if_pos rfl
theorem lm_Haste_put {p_line p_now p_many p_things p_late : P} : List.lookup ("put" : Str) [(("_line" : Str), p_line), (("_now" : Str), p_now), (("_many" : Str), p_many), (("_things" : Str), p_things), (("_late" : Str), p_late)] = none := by rfl
theorem tb_Haste_put {K : PySem.W.Frag} {a : Ad} : tbl_put K a a.c_Haste = some (d_Haste_put K a) := if_pos rfl
theorem lm_Haste_waiting {p_line p_now p_many p_things p_late : P} : List.lookup ("waiting" : Str) [(("_line" : Str), p_line), (("_now" : Str), p_now), (("_many" : Str), p_many), (("_things" : Str), p_things), (("_late" : Str), p_late)] = none := by rfl
theorem tb_Haste_waiting {K : PySem.W.Frag} {a : Ad} : tbl_waiting K a a.c_Haste = some (d_Haste_waiting K a) := if_pos rfl
theorem lm_Haste_late {p_line p_now p_many p_things p_late : P} : List.lookup ("late" : Str) [(("_line" : Str), p_line), (("_now" : Str), p_now), (("_many" : Str), p_many), (("_things" : Str), p_things), (("_late" : Str), p_late)] = none := by rfl
theorem tb_Haste_late {K : PySem.W.Frag} {a : Ad} : tbl_late K a a.c_Haste = some (d_Haste_late K a) := if_pos rfl
theorem lm_Haste_overdue {p_line p_now p_many p_things p_late : P} : List.lookup ("overdue" : Str) [(("_line" : Str), p_line), (("_now" : Str), p_now), (("_many" : Str), p_many), (("_things" : Str), p_things), (("_late" : Str), p_late)] = none := by rfl
theorem tb_Haste_overdue {K : PySem.W.Frag} {a : Ad} : tbl_overdue K a a.c_Haste = some (d_Haste_overdue K a) := if_pos rfl
theorem lm_Haste_tick {p_line p_now p_many p_things p_late : P} : List.lookup ("tick" : Str) [(("_line" : Str), p_line), (("_now" : Str), p_now), (("_many" : Str), p_many), (("_things" : Str), p_things), (("_late" : Str), p_late)] = none := by rfl
theorem tb_Haste_tick {K : PySem.W.Frag} {a : Ad} : tbl_tick K a a.c_Haste = some (d_Haste_tick K a) := if_pos rfl
/-! ### what the top has written, the head -/
abbrev Den : Prop := ∀ (K : PySem.W.Frag) (mg : Str → Option Value) (a : Ad), Tx K mg a → ∀ zs : List Int, zs.length ≤ 63 → (∀ z ∈ zs, Builtin.Int.intBits z ≤ 1048576) → LawDen (d_law K a) zs
theorem fin (den : Den) {l : PySem.W.OpenLaw} {w : World} {K : PySem.W.Frag} {h : Heap} {mg : Str → Option Value} {fa : Addr} {c_Haste f_Haste_init f_Haste_now f_Haste_put f_Haste_waiting f_Haste_late f_Haste_overdue f_Haste_tick f_law_draw f_law_take f_law_same f_law : Addr} (X : K.In h) (G : h.Ns mainGlobals mg) (hfa : mg "law" = some (.ref fa))
    {od0 an0 : Option Addr} {sl0 : Array (Option Value)} {oc0 kV0 dc0 pm0 cd0 ct0 : Value}
    {od1 an1 : Option Addr} {sl1 : Array (Option Value)} {oc1 kV1 dc1 pm1 cd1 ct1 : Value}
    {od2 an2 : Option Addr} {sl2 : Array (Option Value)} {oc2 kV2 dc2 pm2 cd2 ct2 : Value}
    {od3 an3 : Option Addr} {sl3 : Array (Option Value)} {oc3 kV3 dc3 pm3 cd3 ct3 : Value}
    {od4 an4 : Option Addr} {sl4 : Array (Option Value)} {oc4 kV4 dc4 pm4 cd4 ct4 : Value}
    {od5 an5 : Option Addr} {sl5 : Array (Option Value)} {oc5 kV5 dc5 pm5 cd5 ct5 : Value}
    {od6 an6 : Option Addr} {sl6 : Array (Option Value)} {oc6 kV6 dc6 pm6 cd6 ct6 : Value}
    {od7 an7 : Option Addr} {sl7 : Array (Option Value)} {oc7 kV7 dc7 pm7 cd7 ct7 : Value}
    {od8 an8 : Option Addr} {sl8 : Array (Option Value)} {oc8 kV8 dc8 pm8 cd8 ct8 : Value}
    {od9 an9 : Option Addr} {sl9 : Array (Option Value)} {oc9 kV9 dc9 pm9 cd9 ct9 : Value}
    {od10 an10 : Option Addr} {sl10 : Array (Option Value)} {oc10 kV10 dc10 pm10 cd10 ct10 : Value}
    (n_abs : PySem.W.nsIn K mainGlobals "abs" = some none)
    (n_int : PySem.W.nsIn K mainGlobals "int" = some none)
    (n_len : PySem.W.nsIn K mainGlobals "len" = some none)
    (n_min : PySem.W.nsIn K mainGlobals "min" = some none)
    (n_range : PySem.W.nsIn K mainGlobals "range" = some none)
    (n_repr : PySem.W.nsIn K mainGlobals "repr" = some none)
    (n_sorted : PySem.W.nsIn K mainGlobals "sorted" = some none)
    (n_sum : PySem.W.nsIn K mainGlobals "sum" = some none)
    (n_tuple : PySem.W.nsIn K mainGlobals "tuple" = some none)
    (a_Haste : PySem.W.nsIn K mainGlobals "Haste" = some (some (.ref c_Haste)))
    (a_Haste_init : PySem.W.findIn K (.ref c_Haste) "__init__" = some (some (.ref f_Haste_init)))
    (i_Haste_init : PySem.W.isFn K (.ref f_Haste_init) = true)
    (l_Haste_init : K.lookup f_Haste_init = some ⟨oc0, od0, .func (PySem.W.fnOf "__init__" "Haste.__init__" (defArgs s_Haste_init) (defBody s_Haste_init) (defScope s_Haste_init) .none kV0 dc0 pm0 an0 cd0 ct0), sl0⟩)
    (c_Haste_init : PySem.W.codeIn K cd0 "Haste.__init__" = true)
    (k_Haste_init : PySem.W.keepIn K (.ref f_Haste_init) = true)
    (a_Haste_now : PySem.W.findIn K (.ref c_Haste) "now" = some (some (.ref f_Haste_now)))
    (i_Haste_now : PySem.W.isFn K (.ref f_Haste_now) = true)
    (l_Haste_now : K.lookup f_Haste_now = some ⟨oc1, od1, .func (PySem.W.fnOf "now" "Haste.now" (defArgs s_Haste_now) (defBody s_Haste_now) (defScope s_Haste_now) .none kV1 dc1 pm1 an1 cd1 ct1), sl1⟩)
    (c_Haste_now : PySem.W.codeIn K cd1 "Haste.now" = true)
    (k_Haste_now : PySem.W.keepIn K (.ref f_Haste_now) = true)
    (a_Haste_put : PySem.W.findIn K (.ref c_Haste) "put" = some (some (.ref f_Haste_put)))
    (i_Haste_put : PySem.W.isFn K (.ref f_Haste_put) = true)
    (l_Haste_put : K.lookup f_Haste_put = some ⟨oc2, od2, .func (PySem.W.fnOf "put" "Haste.put" (defArgs s_Haste_put) (defBody s_Haste_put) (defScope s_Haste_put) .none kV2 dc2 pm2 an2 cd2 ct2), sl2⟩)
    (c_Haste_put : PySem.W.codeIn K cd2 "Haste.put" = true)
    (k_Haste_put : PySem.W.keepIn K (.ref f_Haste_put) = true)
    (a_Haste_waiting : PySem.W.findIn K (.ref c_Haste) "waiting" = some (some (.ref f_Haste_waiting)))
    (i_Haste_waiting : PySem.W.isFn K (.ref f_Haste_waiting) = true)
    (l_Haste_waiting : K.lookup f_Haste_waiting = some ⟨oc3, od3, .func (PySem.W.fnOf "waiting" "Haste.waiting" (defArgs s_Haste_waiting) (defBody s_Haste_waiting) (defScope s_Haste_waiting) .none kV3 dc3 pm3 an3 cd3 ct3), sl3⟩)
    (c_Haste_waiting : PySem.W.codeIn K cd3 "Haste.waiting" = true)
    (k_Haste_waiting : PySem.W.keepIn K (.ref f_Haste_waiting) = true)
    (a_Haste_late : PySem.W.findIn K (.ref c_Haste) "late" = some (some (.ref f_Haste_late)))
    (i_Haste_late : PySem.W.isFn K (.ref f_Haste_late) = true)
    (l_Haste_late : K.lookup f_Haste_late = some ⟨oc4, od4, .func (PySem.W.fnOf "late" "Haste.late" (defArgs s_Haste_late) (defBody s_Haste_late) (defScope s_Haste_late) .none kV4 dc4 pm4 an4 cd4 ct4), sl4⟩)
    (c_Haste_late : PySem.W.codeIn K cd4 "Haste.late" = true)
    (k_Haste_late : PySem.W.keepIn K (.ref f_Haste_late) = true)
    (a_Haste_overdue : PySem.W.findIn K (.ref c_Haste) "overdue" = some (some (.ref f_Haste_overdue)))
    (i_Haste_overdue : PySem.W.isFn K (.ref f_Haste_overdue) = true)
    (l_Haste_overdue : K.lookup f_Haste_overdue = some ⟨oc5, od5, .func (PySem.W.fnOf "overdue" "Haste.overdue" (defArgs s_Haste_overdue) (defBody s_Haste_overdue) (defScope s_Haste_overdue) .none kV5 dc5 pm5 an5 cd5 ct5), sl5⟩)
    (c_Haste_overdue : PySem.W.codeIn K cd5 "Haste.overdue" = true)
    (k_Haste_overdue : PySem.W.keepIn K (.ref f_Haste_overdue) = true)
    (a_Haste_tick : PySem.W.findIn K (.ref c_Haste) "tick" = some (some (.ref f_Haste_tick)))
    (i_Haste_tick : PySem.W.isFn K (.ref f_Haste_tick) = true)
    (l_Haste_tick : K.lookup f_Haste_tick = some ⟨oc6, od6, .func (PySem.W.fnOf "tick" "Haste.tick" (defArgs s_Haste_tick) (defBody s_Haste_tick) (defScope s_Haste_tick) .none kV6 dc6 pm6 an6 cd6 ct6), sl6⟩)
    (c_Haste_tick : PySem.W.codeIn K cd6 "Haste.tick" = true)
    (k_Haste_tick : PySem.W.keepIn K (.ref f_Haste_tick) = true)
    (a_law_draw : PySem.W.nsIn K mainGlobals "_law_draw" = some (some (.ref f_law_draw)))
    (l_law_draw : K.lookup f_law_draw = some ⟨oc7, od7, .func (PySem.W.fnOf "_law_draw" "_law_draw" (defArgs s_law_draw) (defBody s_law_draw) (defScope s_law_draw) .none kV7 dc7 pm7 an7 cd7 ct7), sl7⟩)
    (c_law_draw : PySem.W.codeIn K cd7 "_law_draw" = true)
    (k_law_draw : PySem.W.keepIn K (.ref f_law_draw) = true)
    (a_law_take : PySem.W.nsIn K mainGlobals "_law_take" = some (some (.ref f_law_take)))
    (l_law_take : K.lookup f_law_take = some ⟨oc8, od8, .func (PySem.W.fnOf "_law_take" "_law_take" (defArgs s_law_take) (defBody s_law_take) (defScope s_law_take) .none kV8 dc8 pm8 an8 cd8 ct8), sl8⟩)
    (c_law_take : PySem.W.codeIn K cd8 "_law_take" = true)
    (k_law_take : PySem.W.keepIn K (.ref f_law_take) = true)
    (a_law_same : PySem.W.nsIn K mainGlobals "_law_same" = some (some (.ref f_law_same)))
    (l_law_same : K.lookup f_law_same = some ⟨oc9, od9, .func (PySem.W.fnOf "_law_same" "_law_same" (defArgs s_law_same) (defBody s_law_same) (defScope s_law_same) .none kV9 dc9 pm9 an9 cd9 ct9), sl9⟩)
    (c_law_same : PySem.W.codeIn K cd9 "_law_same" = true)
    (k_law_same : PySem.W.keepIn K (.ref f_law_same) = true)
    (a_law : PySem.W.nsIn K mainGlobals "law" = some (some (.ref f_law)))
    (l_law : K.lookup f_law = some ⟨oc10, od10, .func (PySem.W.fnOf "law" "law" (defArgs s_law) (defBody s_law) (defScope s_law) .none kV10 dc10 pm10 an10 cd10 ct10), sl10⟩)
    (c_law : PySem.W.codeIn K cd10 "law" = true)
    (k_law : PySem.W.keepIn K (.ref f_law) = true)
    (pg_Haste : PySem.W.plainGet K c_Haste Str.empty = true)
    (hd_Haste : PySem.W.hasDictIn K c_Haste = true)
    (po_Haste : PySem.W.plainOver K c_Haste = true)
    (sa_Haste : PySem.W.findIn K (.ref c_Haste) "__setattr__" = some (some (.builtin "object.__setattr__")))
    (mk_Haste : PySem.W.makesIn K c_Haste = true)
    (kc_Haste : PySem.W.keepIn K (.ref c_Haste) = true)
    (n_Haste__line : PySem.W.findIn K (.ref c_Haste) "_line" = some none)
    (n_Haste__now : PySem.W.findIn K (.ref c_Haste) "_now" = some none)
    (n_Haste__many : PySem.W.findIn K (.ref c_Haste) "_many" = some none)
    (n_Haste__things : PySem.W.findIn K (.ref c_Haste) "_things" = some none)
    (n_Haste__late : PySem.W.findIn K (.ref c_Haste) "_late" = some none)
    : (∀ base : Heap, K.In base → base.Ns mainGlobals mg → FnG l.prog w K mg base 3 fa (d_law K ⟨c_Haste, f_Haste_init, f_Haste_now, f_Haste_put, f_Haste_waiting, f_Haste_late, f_Haste_overdue, f_Haste_tick, f_law_draw, f_law_take, f_law_same, f_law⟩)) ∧ ∀ zs : List Int, zs.length ≤ 63 → (∀ z ∈ zs, Builtin.Int.intBits z ≤ 1048576) → LawDen (d_law K ⟨c_Haste, f_Haste_init, f_Haste_now, f_Haste_put, f_Haste_waiting, f_Haste_late, f_Haste_overdue, f_Haste_tick, f_law_draw, f_law_take, f_law_same, f_law⟩) zs := by
  let a : Ad := ⟨c_Haste, f_Haste_init, f_Haste_now, f_Haste_put, f_Haste_waiting, f_Haste_late, f_Haste_overdue, f_Haste_tick, f_law_draw, f_law_take, f_law_same, f_law⟩
  have e := hfa.symm.trans (PySem.W.mg_of X G a_law)
  cases e
  have T : Tx K mg a :=
    { n_abs := PySem.W.mg_none_of X G n_abs, n_int := PySem.W.mg_none_of X G n_int, n_len := PySem.W.mg_none_of X G n_len, n_min := PySem.W.mg_none_of X G n_min, n_range := PySem.W.mg_none_of X G n_range, n_repr := PySem.W.mg_none_of X G n_repr, n_sorted := PySem.W.mg_none_of X G n_sorted, n_sum := PySem.W.mg_none_of X G n_sum, n_tuple := PySem.W.mg_none_of X G n_tuple, g__law_draw := PySem.W.mg_of X G a_law_draw, g__law_take := PySem.W.mg_of X G a_law_take, g__law_same := PySem.W.mg_of X G a_law_same, g_law := PySem.W.mg_of X G a_law, g_Haste := PySem.W.mg_of X G a_Haste, cl_Haste := ⟨pg_Haste, hd_Haste, po_Haste, sa_Haste⟩, m_Haste := ⟨mk_Haste, a_Haste_init, i_Haste_init, kc_Haste⟩, m_Haste_now := ⟨a_Haste_now, i_Haste_now, k_Haste_now⟩, m_Haste_put := ⟨a_Haste_put, i_Haste_put, k_Haste_put⟩, m_Haste_waiting := ⟨a_Haste_waiting, i_Haste_waiting, k_Haste_waiting⟩, m_Haste_late := ⟨a_Haste_late, i_Haste_late, k_Haste_late⟩, m_Haste_overdue := ⟨a_Haste_overdue, i_Haste_overdue, k_Haste_overdue⟩, m_Haste_tick := ⟨a_Haste_tick, i_Haste_tick, k_Haste_tick⟩, n_Haste__line := n_Haste__line, n_Haste__now := n_Haste__now, n_Haste__many := n_Haste__many, n_Haste__things := n_Haste__things, n_Haste__late := n_Haste__late }
  refine ⟨fun base _ _ => ?_, den K mg a T⟩
  have F_Haste_init : FnG l.prog w K mg base 1 a.f_Haste_init (d_Haste_init K a) := ok_Haste_init T (fun_mk (st := s_Haste_init) l_Haste_init c_Haste_init k_Haste_init) 
  have F_Haste_now : FnG l.prog w K mg base 1 a.f_Haste_now (d_Haste_now K a) := ok_Haste_now T (fun_mk (st := s_Haste_now) l_Haste_now c_Haste_now k_Haste_now) 
  have F_Haste_put : FnG l.prog w K mg base 1 a.f_Haste_put (d_Haste_put K a) := ok_Haste_put T (fun_mk (st := s_Haste_put) l_Haste_put c_Haste_put k_Haste_put) 
  have F_Haste_waiting : FnG l.prog w K mg base 1 a.f_Haste_waiting (d_Haste_waiting K a) := ok_Haste_waiting T (fun_mk (st := s_Haste_waiting) l_Haste_waiting c_Haste_waiting k_Haste_waiting) 
  have F_Haste_late : FnG l.prog w K mg base 1 a.f_Haste_late (d_Haste_late K a) := ok_Haste_late T (fun_mk (st := s_Haste_late) l_Haste_late c_Haste_late k_Haste_late) 
  have F_Haste_overdue : FnG l.prog w K mg base 1 a.f_Haste_overdue (d_Haste_overdue K a) := ok_Haste_overdue T (fun_mk (st := s_Haste_overdue) l_Haste_overdue c_Haste_overdue k_Haste_overdue) 
  have F_Haste_tick : FnG l.prog w K mg base 1 a.f_Haste_tick (d_Haste_tick K a) := ok_Haste_tick T (fun_mk (st := s_Haste_tick) l_Haste_tick c_Haste_tick k_Haste_tick) 
  have F_law_draw : FnG l.prog w K mg base 1 a.f_law_draw (d_law_draw K a) := ok_law_draw T (fun_mk (st := s_law_draw) l_law_draw c_law_draw k_law_draw) 
  have F_law_take : FnG l.prog w K mg base 1 a.f_law_take (d_law_take K a) := ok_law_take T (fun_mk (st := s_law_take) l_law_take c_law_take k_law_take) 
  have F_law_same : FnG l.prog w K mg base 1 a.f_law_same (d_law_same K a) := ok_law_same T (fun_mk (st := s_law_same) l_law_same c_law_same k_law_same) 
  have F_law : FnG l.prog w K mg base 3 a.f_law (d_law K a) := ok_law T (fun_mk (st := s_law) l_law c_law k_law) F_Haste_init F_Haste_late F_Haste_now F_Haste_overdue F_Haste_put F_Haste_tick F_Haste_waiting F_law_draw F_law_same F_law_take
  exact F_law
end K68

/-! k68: the plain law: things and their octets. -/
namespace K68
open PySem PySem.Spec PyProof.Rows L2 NT
/-- due, number, size -/
abbrev Th := Int × Int × Int
def thL (t : Th) : List Int := [t.1, t.2.1, t.2.2]
abbrev Oc := Int × Int
def prL (p : Oc) : List Int := [p.1, p.2]
def oct (t : Th) : List Oc := List.replicate t.2.2.toNat (t.1, t.2.1)
def expd (ts : List Th) : List Oc := ts.flatMap oct
theorem expd_cons (t : Th) (r : List Th) : expd (t :: r) = oct t ++ expd r := rfl
theorem expd_app (r q : List Th) : expd (r ++ q) = expd r ++ expd q := by simp [expd]
theorem mem_expd {p : Oc} {r : List Th} (h : p ∈ expd r) : ∃ t ∈ r, p = (t.1, t.2.1) := by
  obtain ⟨t, h1, h2⟩ := List.mem_flatMap.mp h
  exact ⟨t, h1, (List.mem_replicate.mp h2).2⟩
/-! ### order -/
theorem uniq {α : Type} {r : α → α → Prop} (anti : ∀ x y, r x y → r y x → x = y) : ∀ {l m : List α}, l.Perm m → l.Pairwise r → m.Pairwise r → l = m
  | [], m, h, _, _ => (List.Perm.nil_eq h)
  | x :: l, m, h, hl, hm => by
    cases m with
    | nil => exact absurd h.length_eq (by simp)
    | cons y m =>
      have e : x = y := by
        have hx := h.mem_iff.mp (List.mem_cons_self (a := x) (l := l))
        have hy := h.mem_iff.mpr (List.mem_cons_self (a := y) (l := m))
        rcases List.mem_cons.mp hx with q | q
        · exact q
        · rcases List.mem_cons.mp hy with q2 | q2
          · exact q2.symm
          · exact anti x y ((List.pairwise_cons.mp hl).1 y q2) ((List.pairwise_cons.mp hm).1 x q)
      subst e
      rw [uniq anti h.cons_inv (List.pairwise_cons.mp hl).2 (List.pairwise_cons.mp hm).2]
theorem lex_anti : ∀ x y : List Int, lexI y x = false → lexI x y = false → x = y
  | [], [], _, _ => rfl
  | [], _ :: _, _, h => by simp [lexI] at h
  | _ :: _, [], h, _ => by simp [lexI] at h
  | x :: l, y :: m, h1, h2 => by
    simp only [lexI] at h1 h2
    by_cases e : x = y
    · subst e
      rw [if_pos rfl] at h1 h2
      rw [lex_anti l m h1 h2]
    · rw [if_neg (Ne.symm e)] at h1
      rw [if_neg e] at h2
      have := of_decide_eq_false h1
      have := of_decide_eq_false h2
      omega
/-- a thing ahead of another: so are their octets -/
theorem th_le {t u : Th} (h : lexI (thL u) (thL t) = false) : lexI (prL (u.1, u.2.1)) (prL (t.1, t.2.1)) = false := by
  simp only [thL, prL, lexI] at h ⊢
  by_cases e1 : u.1 = t.1
  · rw [if_pos e1] at h ⊢
    by_cases e2 : u.2.1 = t.2.1
    · rw [if_pos e2]
    · rw [if_neg e2] at h ⊢
      exact h
  · rw [if_neg e1] at h ⊢
    exact h
theorem expd_sorted : ∀ {ts : List Th}, ts.Pairwise (fun x y => lexI (thL y) (thL x) = false) → (expd ts).Pairwise (fun x y => lexI (prL y) (prL x) = false)
  | [], _ => List.Pairwise.nil
  | t :: r, h => by
    obtain ⟨h1, h2⟩ := List.pairwise_cons.mp h
    rw [expd_cons]
    refine List.pairwise_append.mpr ⟨?_, expd_sorted h2, fun a ha b hb => ?_⟩
    · refine List.pairwise_replicate.mpr (.inr ?_)
      exact lexI_irr _
    · obtain rfl := (List.mem_replicate.mp ha).2
      obtain ⟨u, hu, rfl⟩ := mem_expd hb
      exact th_le (h1 u hu)
theorem expd_perm {ts us : List Th} (h : ts.Perm us) : (expd ts).Perm (expd us) := List.Perm.flatMap_right _ h
theorem prL_inj {p q : Oc} (h : prL p = prL q) : p = q := by
  simp only [prL, List.cons.injEq, and_true] at h
  exact Prod.ext h.1 h.2
theorem thL_inj {p q : Th} (h : thL p = thL q) : p = q := by
  simp only [thL, List.cons.injEq, and_true] at h
  exact Prod.ext h.1 (Prod.ext h.2.1 h.2.2)
/-- the sorted octets are the octets of the sorted things -/
theorem sorted_expd {oc oc' : List Oc} {ts ts' : List Th} (h : oc.Perm (expd ts)) (h1 : oc'.Perm oc) (h2 : oc'.Pairwise (fun x y => lexI (prL y) (prL x) = false)) (h3 : ts'.Perm ts) (h4 : ts'.Pairwise (fun x y => lexI (thL y) (thL x) = false)) : oc' = expd ts' :=
  uniq (fun x y a b => prL_inj (lex_anti _ _ a b)) ((h1.trans h).trans (expd_perm h3).symm) h2 (expd_sorted h4)
/-- a perm of rows is the rows of a perm -/
theorem perm_rows {α : Type} {f : α → List Int} (inj : ∀ x y, f x = f y → x = y) {l : List α} {L : List (List Int)} (h : L.Perm (l.map f)) : ∃ l' : List α, L = l'.map f ∧ l'.Perm l := by
  have key : ∀ (L : List (List Int)), (∀ x ∈ L, ∃ a, x = f a) → ∃ l' : List α, L = l'.map f := fun L => by
    induction L with
    | nil => intro _; exact ⟨[], rfl⟩
    | cons x L ih =>
      intro hx
      obtain ⟨a, rfl⟩ := hx x List.mem_cons_self
      obtain ⟨l', rfl⟩ := ih fun y hy => hx y (List.mem_cons_of_mem _ hy)
      exact ⟨a :: l', rfl⟩
  obtain ⟨l', rfl⟩ := key L fun x hx => by
    obtain ⟨a, _, e⟩ := List.mem_map.mp (h.mem_iff.mp hx)
    exact ⟨a, e.symm⟩
  refine ⟨l', rfl, ?_⟩
  induction l' generalizing l with
  | nil =>
    have : l = [] := by
      have := h.length_eq
      simp at this
      exact List.length_eq_zero_iff.mp this.symm
    rw [this]
  | cons a l' ih =>
    have hm : f a ∈ l.map f := h.mem_iff.mp List.mem_cons_self
    obtain ⟨b, hb, e⟩ := List.mem_map.mp hm
    obtain rfl := inj _ _ e
    obtain ⟨s, t, rfl⟩ := List.append_of_mem hb
    have h' : (f b :: l'.map f).Perm (f b :: (s ++ t).map f) := by
      refine h.trans ?_
      rw [← List.map_cons]
      exact (List.perm_middle (a := b) (l₁ := s) (l₂ := t)).map f
    have := ih h'.cons_inv
    exact (this.cons b).trans (List.perm_middle (a := b) (l₁ := s) (l₂ := t)).symm
/-! ### a tick -/
def part (left : Int) (t : Th) : Int := if left < t.2.2 then left else t.2.2
def fnd : Int → List Th → List Th
  | _, [] => []
  | left, t :: r => (if 0 < part left t then [(t.1, t.2.1, part left t)] else []) ++ fnd (left - part left t) r
def kpt : Int → List Th → List Th
  | _, [] => []
  | left, t :: r => (if part left t < t.2.2 then [(t.1, t.2.1, t.2.2 - part left t)] else []) ++ kpt (left - part left t) r
def lateOf (nw : Int) (fx : List Th) : Int := (fx.map fun t => if t.1 < nw then t.2.2 else 0).sum
theorem lateOf_app (nw : Int) (f g : List Th) : lateOf nw (f ++ g) = lateOf nw f + lateOf nw g := by simp [lateOf]
def Pos (ts : List Th) : Prop := ∀ t ∈ ts, 0 < t.2.2
theorem part_le {left : Int} {t : Th} (h : 0 ≤ left) (h2 : 0 < t.2.2) : 0 ≤ part left t ∧ part left t ≤ left ∧ part left t ≤ t.2.2 := by
  unfold part
  split <;> omega
theorem oct_split {left : Int} {t : Th} (h : 0 ≤ left) (h2 : 0 < t.2.2) : oct t = (if 0 < part left t then oct (t.1, t.2.1, part left t) else []) ++ (if part left t < t.2.2 then oct (t.1, t.2.1, t.2.2 - part left t) else []) := by
  obtain ⟨p0, p1, p2⟩ := part_le h h2
  have e1 : (if 0 < part left t then oct (t.1, t.2.1, part left t) else []) = List.replicate (part left t).toNat (t.1, t.2.1) := by
    split
    · rfl
    · rw [show (part left t).toNat = 0 by omega]; rfl
  have e2 : (if part left t < t.2.2 then oct (t.1, t.2.1, t.2.2 - part left t) else []) = List.replicate (t.2.2 - part left t).toNat (t.1, t.2.1) := by
    split
    · rfl
    · rw [show (t.2.2 - part left t).toNat = 0 by omega]; rfl
  rw [e1, e2, ← List.replicate_append_replicate.symm]
  show List.replicate t.2.2.toNat (t.1, t.2.1) = _
  congr 1
  omega
/-- what goes and what stays -/
theorem cut_expd : ∀ (ts : List Th) (left : Int), 0 ≤ left → Pos ts → expd ts = expd (fnd left ts) ++ expd (kpt left ts) ∧ ((expd (fnd left ts)).length : Int) ≤ left ∧ (kpt left ts = [] ∨ ((expd (fnd left ts)).length : Int) = left)
  | [], left, h, _ => ⟨rfl, by simpa [fnd, expd] using h, .inl rfl⟩
  | t :: r, left, h, hp => by
    have h2 := hp t List.mem_cons_self
    obtain ⟨p0, p1, p2⟩ := part_le h h2
    obtain ⟨i1, i2, i3⟩ := cut_expd r (left - part left t) (by omega) fun u hu => hp u (List.mem_cons_of_mem _ hu)
    have f1 : expd (if 0 < part left t then [(t.1, t.2.1, part left t)] else []) = if 0 < part left t then oct (t.1, t.2.1, part left t) else [] := by split <;> simp [expd]
    have f2 : expd (if part left t < t.2.2 then [(t.1, t.2.1, t.2.2 - part left t)] else []) = if part left t < t.2.2 then oct (t.1, t.2.1, t.2.2 - part left t) else [] := by split <;> simp [expd]
    have l1 : ((if 0 < part left t then oct (t.1, t.2.1, part left t) else []).length : Int) = part left t := by
      split
      · simp [oct]; omega
      · simp; omega
    simp only [fnd, kpt, expd_app, f1, f2]
    by_cases full : part left t < t.2.2
    · -- nothing is left for the others
      have z : left - part left t = 0 := by unfold part at full ⊢; split <;> split at full <;> omega
      have fr : expd (fnd (left - part left t) r) = [] := by
        have : ((expd (fnd (left - part left t) r)).length : Int) ≤ 0 := by omega
        exact List.length_eq_zero_iff.mp (by omega)
      refine ⟨?_, ?_, .inr ?_⟩
      · rw [expd_cons, oct_split h h2, fr, List.append_nil, List.append_assoc]
        congr 1
        rw [i1, fr, List.nil_append]
      · rw [fr, List.append_nil, l1]; omega
      · rw [fr, List.append_nil, l1]; omega
    · rw [if_neg full, List.nil_append]
      refine ⟨?_, ?_, ?_⟩
      · rw [expd_cons, oct_split h h2, if_neg full, List.append_nil, i1, List.append_assoc]
      · rw [List.length_append, Int.natCast_add, l1]; omega
      · rcases i3 with i3 | i3
        · left; rw [if_neg full, i3]; rfl
        · right; rw [List.length_append, Int.natCast_add, l1]; omega
theorem take_expd {ts : List Th} {left : Int} (h : 0 ≤ left) (hp : Pos ts) : (expd ts).take left.toNat = expd (fnd left ts) ∧ (expd ts).drop left.toNat = expd (kpt left ts) := by
  obtain ⟨e, l, k⟩ := cut_expd ts left h hp
  rcases k with k | k
  · have z : expd (kpt left ts) = [] := by rw [k]; rfl
    rw [e, z, List.append_nil]
    exact ⟨List.take_of_length_le (by omega), List.drop_eq_nil_of_le (by omega)⟩
  · have e2 : left.toNat = (expd (fnd left ts)).length := by omega
    rw [e2, e]
    exact ⟨List.take_left, List.drop_left⟩
/-! ### octets, one by one, to parts -/
def grp (due : List Oc) (o : Oc) : List Oc := match due.getLast? with
  | some q => if q.1 = o.2 then due.dropLast ++ [(o.2, q.2 + 1)] else due ++ [(o.2, 1)]
  | none => due ++ [(o.2, 1)]
def numP (t : Th) : Oc := (t.2.1, t.2.2)
theorem grp_rep (d n : Int) : ∀ (k : Nat) (due : List Oc) (c : Int), (List.replicate k (d, n)).foldl grp (due ++ [(n, c)]) = due ++ [(n, c + k)]
  | 0, due, c => by simp
  | k + 1, due, c => by
    rw [List.replicate_succ, List.foldl_cons]
    have : grp (due ++ [(n, c)]) (d, n) = due ++ [(n, c + 1)] := by simp [grp]
    rw [this, grp_rep d n k due (c + 1)]
    congr 3
    omega
theorem grp_oct {t : Th} (h : 0 < t.2.2) {due : List Oc} (hd : ∀ q, due.getLast? = some q → q.1 ≠ t.2.1) : (oct t).foldl grp due = due ++ [numP t] := by
  obtain ⟨k, hk⟩ : ∃ k, t.2.2.toNat = k + 1 := ⟨t.2.2.toNat - 1, by omega⟩
  unfold oct
  rw [hk, List.replicate_succ, List.foldl_cons]
  have : grp due (t.1, t.2.1) = due ++ [(t.2.1, 1)] := by
    unfold grp
    split
    · rename_i q e
      rw [if_neg (hd q e)]
    · rfl
  rw [this, grp_rep]
  congr 3
  omega
theorem grp_expd : ∀ (fx : List Th) (due : List Oc), Pos fx → (fx.map fun t => t.2.1).Nodup → (∀ q, due.getLast? = some q → ∀ t ∈ fx, q.1 ≠ t.2.1) → (expd fx).foldl grp due = due ++ fx.map numP
  | [], due, _, _, _ => by simp [expd]
  | t :: r, due, hp, hn, hd => by
    rw [expd_cons, List.foldl_append, grp_oct (hp t List.mem_cons_self) fun q e => hd q e t List.mem_cons_self]
    rw [List.map_cons, List.nodup_cons] at hn
    rw [grp_expd r _ (fun u hu => hp u (List.mem_cons_of_mem _ hu)) hn.2 fun q e u hu => ?_]
    · simp
    · simp at e
      subst e
      intro z
      exact hn.1 (List.mem_map.mpr ⟨u, hu, z.symm⟩)
/-- the numbers of what goes and of what stays -/
theorem fnd_sub : ∀ (ts : List Th) (left : Int), ((fnd left ts).map fun t => t.2.1).Sublist (ts.map fun t => t.2.1)
  | [], _ => List.Sublist.slnil
  | t :: r, left => by
    simp only [fnd, List.map_append, List.map_cons]
    split
    · exact (fnd_sub r _).cons₂ _
    · exact (fnd_sub r _).cons _
theorem kpt_sub : ∀ (ts : List Th) (left : Int), ((kpt left ts).map fun t => t.2.1).Sublist (ts.map fun t => t.2.1)
  | [], _ => List.Sublist.slnil
  | t :: r, left => by
    simp only [kpt, List.map_append, List.map_cons]
    split
    · exact (kpt_sub r _).cons₂ _
    · exact (kpt_sub r _).cons _
/-- bounds of a thing -/
def Ok (many : Int) (t : Th) : Prop := 0 ≤ t.1 ∧ t.1 ≤ 100 ∧ 0 ≤ t.2.1 ∧ t.2.1 < many ∧ 0 < t.2.2 ∧ t.2.2 ≤ 14
theorem fnd_ok {many : Int} : ∀ (ts : List Th) (left : Int), 0 ≤ left → (∀ t ∈ ts, Ok many t) → ∀ t ∈ fnd left ts, Ok many t
  | [], _, _, _ => fun t h => by simp [fnd] at h
  | t :: r, left, h, hp => fun u hu => by
    obtain ⟨a1, a2, a3, a4, a5, a6⟩ := hp t List.mem_cons_self
    obtain ⟨p0, p1, p2⟩ := part_le h a5
    simp only [fnd, List.mem_append] at hu
    rcases hu with hu | hu
    · split at hu
      · simp at hu
        subst hu
        exact ⟨a1, a2, a3, a4, by assumption, by show part left t ≤ 14; omega⟩
      · simp at hu
    · exact fnd_ok r _ (by omega) (fun v hv => hp v (List.mem_cons_of_mem _ hv)) u hu
theorem kpt_ok {many : Int} : ∀ (ts : List Th) (left : Int), 0 ≤ left → (∀ t ∈ ts, Ok many t) → ∀ t ∈ kpt left ts, Ok many t
  | [], _, _, _ => fun t h => by simp [kpt] at h
  | t :: r, left, h, hp => fun u hu => by
    obtain ⟨a1, a2, a3, a4, a5, a6⟩ := hp t List.mem_cons_self
    obtain ⟨p0, p1, p2⟩ := part_le h a5
    simp only [kpt, List.mem_append] at hu
    rcases hu with hu | hu
    · split at hu
      · simp at hu
        subst hu
        exact ⟨a1, a2, a3, a4, by show 0 < t.2.2 - part left t; omega, by show t.2.2 - part left t ≤ 14; omega⟩
      · simp at hu
    · exact kpt_ok r _ (by omega) (fun v hv => hp v (List.mem_cons_of_mem _ hv)) u hu
theorem fnd_len : ∀ (ts : List Th) (left : Int), (fnd left ts).length ≤ ts.length
  | [], _ => Nat.le_refl _
  | t :: r, left => by
    have := fnd_len r (left - part left t)
    simp only [fnd, List.length_append, List.length_cons]
    split <;> simp <;> omega
theorem kpt_len : ∀ (ts : List Th) (left : Int), (kpt left ts).length ≤ ts.length
  | [], _ => Nat.le_refl _
  | t :: r, left => by
    have := kpt_len r (left - part left t)
    simp only [kpt, List.length_append, List.length_cons]
    split <;> simp <;> omega
/-! ### counts -/
def cnt (x : Int) (l : List Oc) : Int := ((l.filter fun o => decide (o.1 < x)).length : Nat)
theorem cnt_app (x : Int) (l m : List Oc) : cnt x (l ++ m) = cnt x l + cnt x m := by simp [cnt]
theorem cnt_oct (x : Int) {t : Th} (h : 0 < t.2.2) : cnt x (oct t) = if t.1 < x then t.2.2 else 0 := by
  unfold cnt oct
  split
  · rename_i lt
    rw [List.filter_replicate, if_pos (by simpa using lt), List.length_replicate]
    omega
  · rename_i lt
    rw [List.filter_replicate, if_neg (by simpa using lt)]
    rfl
theorem cnt_expd (x : Int) : ∀ {ts : List Th}, Pos ts → cnt x (expd ts) = (ts.map fun t => if t.1 < x then t.2.2 else 0).sum
  | [], _ => rfl
  | t :: r, h => by
    rw [expd_cons, cnt_app, cnt_oct x (h t List.mem_cons_self), cnt_expd x fun u hu => h u (List.mem_cons_of_mem _ hu)]
    rfl
theorem len_expd : ∀ {ts : List Th}, Pos ts → ((expd ts).length : Int) = (ts.map fun t => t.2.2).sum
  | [], _ => rfl
  | t :: r, h => by
    have h1 := h t List.mem_cons_self
    have h2 := len_expd fun u hu => h u (List.mem_cons_of_mem _ hu)
    rw [expd_cons, List.length_append, Int.natCast_add, h2, List.map_cons, List.sum_cons]
    have : ((oct t).length : Int) = t.2.2 := by simp [oct]; omega
    omega
end K68

namespace K68
open PySem PySem.Spec PyProof.Rows L2 NT
section
variable {K : PySem.W.Frag} {mg : Str → Option Value} {a : Ad} {μ : Mu} {C : P → Mu → Prop} {E : CX}
abbrev iv (i : Int) : Option P := some (.val (.int i))
def tD (t : Th) : D := rowD (thL t)
def oD (p : Oc) : D := rowD (prL p)
abbrev hs (a : Ad) (l nw m : Int) (ad : Addr) (ts : List Th) (lt : Int) : MO := o_Haste a (.val (.int l)) (.val (.int nw)) (.val (.int m)) (.own ad (ts.map tD)) (.val (.int lt))
theorem init_ (T : Tx K mg a) {l : Int} (hC : ∀ μ' ad, μ'[μ.length]? = some (hs a l 0 0 ad [] 0) → μ'.length = μ.length + 1 → (∀ k, k < μ.length → μ'[k]? = μ[k]?) → C (.val .non) μ') : d_Haste_init K a [.ref μ.length, .int l] (μ ++ [.ins a.c_Haste []]) C E := by
  have hl : μ.length < (μ ++ [.ins a.c_Haste []] : Mu).length := by simp
  have h : (μ ++ [.ins a.c_Haste []] : Mu)[μ.length]? = some (.ins a.c_Haste []) := by simp
  refine ⟨rfl, fCons.go ?_⟩
  (try simp only [fAsg, fPar, fPar2, fPar3, fIfS, fRet, fRetN, fDrop, fNil, fBreak, fCont, fAugN, fAugF, fApp, fRaise, mvL, moved, eVar, eVal, eOp2, eOp1, eTup, eLst, eNew, eIf, eAnd2, eOr2, eNot1, eFrz, asD, asB, eFld, eCall, eMake, eMeth, eSl, oNone, oSome, aNil, aCons, lNil, lCons, gNm, gFd, gIx, gTp, gsNil, gsCons, tTru, tBool, tAnd2, tOr2, tNot1, tYesD, addM_i, addM_s, addM_t, addM_oo, addM_bo, addM_ob, addM_lo, addM_ol, addM_ll, subM_i, mulM_i, mulM_o, fdivM_i, modM_i, intAddM_i, cmpM_i, min2M_i, max2M_i, negM_i, absM_i, toIntM_i, isnM_any, isN, eqM_i, eqM_b, eqM_s, eqM_t, ixM_t, ixM_o, ixM_l, ixM_k, ixM_r, ixM_b, truM_b, truM_i, truM_n, truM_t, truM_o, lenM, sumM, tupM, listM, slM, lget, lgetR, lput, iRng1D, iRng2D, iSeq, itOf, List.map_cons, List.map_nil, List.replicate_zero, List.replicate_succ, List.cons_append, List.nil_append, List.append_nil, List.getElem?_cons_succ, List.getElem?_cons_zero, List.set_cons_zero, List.set_cons_succ, List.length_cons, List.length_nil, Nat.reduceAdd, Nat.reduceSub, Nat.reduceLT, Nat.reduceLeDiff, Nat.sub_self, decide_eq_true_eq, sz0, sz1, sz2, sz3, sz4, sz5, sz6, sz7, sz8, ok_int, ok_bl, ok_non, ok_tup, ok_lst, eqb_int, eqb_bl, at0, at1, at2, at3, at4, at5, beq_iff_eq, ite_true, ite_false, Bool.false_eq_true, if_true, if_false, true_and, and_true, false_and, Bool.not_true, Bool.not_false, h, o_Haste, lk_Haste__line, pi_Haste__line, pt_Haste__line, fk_Haste__line T, lk_Haste__now, pi_Haste__now, pt_Haste__now, fk_Haste__now T, lk_Haste__many, pi_Haste__many, pt_Haste__many, fk_Haste__many T, lk_Haste__things, pi_Haste__things, pt_Haste__things, fk_Haste__things T, lk_Haste__late, pi_Haste__late, pt_Haste__late, fk_Haste__late T, lm_Haste_now, tb_Haste_now, lm_Haste_put, tb_Haste_put, lm_Haste_waiting, tb_Haste_waiting, lm_Haste_late, tb_Haste_late, lm_Haste_overdue, tb_Haste_overdue, lm_Haste_tick, tb_Haste_tick])
  refine fCons.go ?_
  (try simp only [fAsg, fPar, fPar2, fPar3, fIfS, fRet, fRetN, fDrop, fNil, fBreak, fCont, fAugN, fAugF, fApp, fRaise, mvL, moved, eVar, eVal, eOp2, eOp1, eTup, eLst, eNew, eIf, eAnd2, eOr2, eNot1, eFrz, asD, asB, eFld, eCall, eMake, eMeth, eSl, oNone, oSome, aNil, aCons, lNil, lCons, gNm, gFd, gIx, gTp, gsNil, gsCons, tTru, tBool, tAnd2, tOr2, tNot1, tYesD, addM_i, addM_s, addM_t, addM_oo, addM_bo, addM_ob, addM_lo, addM_ol, addM_ll, subM_i, mulM_i, mulM_o, fdivM_i, modM_i, intAddM_i, cmpM_i, min2M_i, max2M_i, negM_i, absM_i, toIntM_i, isnM_any, isN, eqM_i, eqM_b, eqM_s, eqM_t, ixM_t, ixM_o, ixM_l, ixM_k, ixM_r, ixM_b, truM_b, truM_i, truM_n, truM_t, truM_o, lenM, sumM, tupM, listM, slM, lget, lgetR, lput, iRng1D, iRng2D, iSeq, itOf, List.map_cons, List.map_nil, List.replicate_zero, List.replicate_succ, List.cons_append, List.nil_append, List.append_nil, List.getElem?_cons_succ, List.getElem?_cons_zero, List.set_cons_zero, List.set_cons_succ, List.length_cons, List.length_nil, Nat.reduceAdd, Nat.reduceSub, Nat.reduceLT, Nat.reduceLeDiff, Nat.sub_self, decide_eq_true_eq, sz0, sz1, sz2, sz3, sz4, sz5, sz6, sz7, sz8, ok_int, ok_bl, ok_non, ok_tup, ok_lst, eqb_int, eqb_bl, at0, at1, at2, at3, at4, at5, beq_iff_eq, ite_true, ite_false, Bool.false_eq_true, if_true, if_false, true_and, and_true, false_and, Bool.not_true, Bool.not_false, List.getElem?_set_self hl, List.set_set, o_Haste, lk_Haste__line, pi_Haste__line, pt_Haste__line, fk_Haste__line T, lk_Haste__now, pi_Haste__now, pt_Haste__now, fk_Haste__now T, lk_Haste__many, pi_Haste__many, pt_Haste__many, fk_Haste__many T, lk_Haste__things, pi_Haste__things, pt_Haste__things, fk_Haste__things T, lk_Haste__late, pi_Haste__late, pt_Haste__late, fk_Haste__late T, lm_Haste_now, tb_Haste_now, lm_Haste_put, tb_Haste_put, lm_Haste_waiting, tb_Haste_waiting, lm_Haste_late, tb_Haste_late, lm_Haste_overdue, tb_Haste_overdue, lm_Haste_tick, tb_Haste_tick])
  refine fCons.go ?_
  (try simp only [fAsg, fPar, fPar2, fPar3, fIfS, fRet, fRetN, fDrop, fNil, fBreak, fCont, fAugN, fAugF, fApp, fRaise, mvL, moved, eVar, eVal, eOp2, eOp1, eTup, eLst, eNew, eIf, eAnd2, eOr2, eNot1, eFrz, asD, asB, eFld, eCall, eMake, eMeth, eSl, oNone, oSome, aNil, aCons, lNil, lCons, gNm, gFd, gIx, gTp, gsNil, gsCons, tTru, tBool, tAnd2, tOr2, tNot1, tYesD, addM_i, addM_s, addM_t, addM_oo, addM_bo, addM_ob, addM_lo, addM_ol, addM_ll, subM_i, mulM_i, mulM_o, fdivM_i, modM_i, intAddM_i, cmpM_i, min2M_i, max2M_i, negM_i, absM_i, toIntM_i, isnM_any, isN, eqM_i, eqM_b, eqM_s, eqM_t, ixM_t, ixM_o, ixM_l, ixM_k, ixM_r, ixM_b, truM_b, truM_i, truM_n, truM_t, truM_o, lenM, sumM, tupM, listM, slM, lget, lgetR, lput, iRng1D, iRng2D, iSeq, itOf, List.map_cons, List.map_nil, List.replicate_zero, List.replicate_succ, List.cons_append, List.nil_append, List.append_nil, List.getElem?_cons_succ, List.getElem?_cons_zero, List.set_cons_zero, List.set_cons_succ, List.length_cons, List.length_nil, Nat.reduceAdd, Nat.reduceSub, Nat.reduceLT, Nat.reduceLeDiff, Nat.sub_self, decide_eq_true_eq, sz0, sz1, sz2, sz3, sz4, sz5, sz6, sz7, sz8, ok_int, ok_bl, ok_non, ok_tup, ok_lst, eqb_int, eqb_bl, at0, at1, at2, at3, at4, at5, beq_iff_eq, ite_true, ite_false, Bool.false_eq_true, if_true, if_false, true_and, and_true, false_and, Bool.not_true, Bool.not_false, List.getElem?_set_self hl, List.set_set, o_Haste, lk_Haste__line, pi_Haste__line, pt_Haste__line, fk_Haste__line T, lk_Haste__now, pi_Haste__now, pt_Haste__now, fk_Haste__now T, lk_Haste__many, pi_Haste__many, pt_Haste__many, fk_Haste__many T, lk_Haste__things, pi_Haste__things, pt_Haste__things, fk_Haste__things T, lk_Haste__late, pi_Haste__late, pt_Haste__late, fk_Haste__late T, lm_Haste_now, tb_Haste_now, lm_Haste_put, tb_Haste_put, lm_Haste_waiting, tb_Haste_waiting, lm_Haste_late, tb_Haste_late, lm_Haste_overdue, tb_Haste_overdue, lm_Haste_tick, tb_Haste_tick])
  refine fCons.go ?_
  (try simp only [fAsg, fPar, fPar2, fPar3, fIfS, fRet, fRetN, fDrop, fNil, fBreak, fCont, fAugN, fAugF, fApp, fRaise, mvL, moved, eVar, eVal, eOp2, eOp1, eTup, eLst, eNew, eIf, eAnd2, eOr2, eNot1, eFrz, asD, asB, eFld, eCall, eMake, eMeth, eSl, oNone, oSome, aNil, aCons, lNil, lCons, gNm, gFd, gIx, gTp, gsNil, gsCons, tTru, tBool, tAnd2, tOr2, tNot1, tYesD, addM_i, addM_s, addM_t, addM_oo, addM_bo, addM_ob, addM_lo, addM_ol, addM_ll, subM_i, mulM_i, mulM_o, fdivM_i, modM_i, intAddM_i, cmpM_i, min2M_i, max2M_i, negM_i, absM_i, toIntM_i, isnM_any, isN, eqM_i, eqM_b, eqM_s, eqM_t, ixM_t, ixM_o, ixM_l, ixM_k, ixM_r, ixM_b, truM_b, truM_i, truM_n, truM_t, truM_o, lenM, sumM, tupM, listM, slM, lget, lgetR, lput, iRng1D, iRng2D, iSeq, itOf, List.map_cons, List.map_nil, List.replicate_zero, List.replicate_succ, List.cons_append, List.nil_append, List.append_nil, List.getElem?_cons_succ, List.getElem?_cons_zero, List.set_cons_zero, List.set_cons_succ, List.length_cons, List.length_nil, Nat.reduceAdd, Nat.reduceSub, Nat.reduceLT, Nat.reduceLeDiff, Nat.sub_self, decide_eq_true_eq, sz0, sz1, sz2, sz3, sz4, sz5, sz6, sz7, sz8, ok_int, ok_bl, ok_non, ok_tup, ok_lst, eqb_int, eqb_bl, at0, at1, at2, at3, at4, at5, beq_iff_eq, ite_true, ite_false, Bool.false_eq_true, if_true, if_false, true_and, and_true, false_and, Bool.not_true, Bool.not_false, List.getElem?_set_self hl, List.set_set, o_Haste, lk_Haste__line, pi_Haste__line, pt_Haste__line, fk_Haste__line T, lk_Haste__now, pi_Haste__now, pt_Haste__now, fk_Haste__now T, lk_Haste__many, pi_Haste__many, pt_Haste__many, fk_Haste__many T, lk_Haste__things, pi_Haste__things, pt_Haste__things, fk_Haste__things T, lk_Haste__late, pi_Haste__late, pt_Haste__late, fk_Haste__late T, lm_Haste_now, tb_Haste_now, lm_Haste_put, tb_Haste_put, lm_Haste_waiting, tb_Haste_waiting, lm_Haste_late, tb_Haste_late, lm_Haste_overdue, tb_Haste_overdue, lm_Haste_tick, tb_Haste_tick])
  intro ad
  (try simp only [fAsg, fPar, fPar2, fPar3, fIfS, fRet, fRetN, fDrop, fNil, fBreak, fCont, fAugN, fAugF, fApp, fRaise, mvL, moved, eVar, eVal, eOp2, eOp1, eTup, eLst, eNew, eIf, eAnd2, eOr2, eNot1, eFrz, asD, asB, eFld, eCall, eMake, eMeth, eSl, oNone, oSome, aNil, aCons, lNil, lCons, gNm, gFd, gIx, gTp, gsNil, gsCons, tTru, tBool, tAnd2, tOr2, tNot1, tYesD, addM_i, addM_s, addM_t, addM_oo, addM_bo, addM_ob, addM_lo, addM_ol, addM_ll, subM_i, mulM_i, mulM_o, fdivM_i, modM_i, intAddM_i, cmpM_i, min2M_i, max2M_i, negM_i, absM_i, toIntM_i, isnM_any, isN, eqM_i, eqM_b, eqM_s, eqM_t, ixM_t, ixM_o, ixM_l, ixM_k, ixM_r, ixM_b, truM_b, truM_i, truM_n, truM_t, truM_o, lenM, sumM, tupM, listM, slM, lget, lgetR, lput, iRng1D, iRng2D, iSeq, itOf, List.map_cons, List.map_nil, List.replicate_zero, List.replicate_succ, List.cons_append, List.nil_append, List.append_nil, List.getElem?_cons_succ, List.getElem?_cons_zero, List.set_cons_zero, List.set_cons_succ, List.length_cons, List.length_nil, Nat.reduceAdd, Nat.reduceSub, Nat.reduceLT, Nat.reduceLeDiff, Nat.sub_self, decide_eq_true_eq, sz0, sz1, sz2, sz3, sz4, sz5, sz6, sz7, sz8, ok_int, ok_bl, ok_non, ok_tup, ok_lst, eqb_int, eqb_bl, at0, at1, at2, at3, at4, at5, beq_iff_eq, ite_true, ite_false, Bool.false_eq_true, if_true, if_false, true_and, and_true, false_and, Bool.not_true, Bool.not_false, List.getElem?_set_self hl, List.set_set, o_Haste, lk_Haste__line, pi_Haste__line, pt_Haste__line, fk_Haste__line T, lk_Haste__now, pi_Haste__now, pt_Haste__now, fk_Haste__now T, lk_Haste__many, pi_Haste__many, pt_Haste__many, fk_Haste__many T, lk_Haste__things, pi_Haste__things, pt_Haste__things, fk_Haste__things T, lk_Haste__late, pi_Haste__late, pt_Haste__late, fk_Haste__late T, lm_Haste_now, tb_Haste_now, lm_Haste_put, tb_Haste_put, lm_Haste_waiting, tb_Haste_waiting, lm_Haste_late, tb_Haste_late, lm_Haste_overdue, tb_Haste_overdue, lm_Haste_tick, tb_Haste_tick])
  refine hC _ ad (List.getElem?_set_self hl) (by simp) fun k lt => ?_
  rw [List.getElem?_set_ne (by omega), List.getElem?_append_left lt]
theorem now_ (T : Tx K mg a) {n : Nat} {l nw m lt : Int} {ad : Addr} {ts : List Th} (hm : μ[n]? = some (hs a l nw m ad ts lt)) (hC : C (.val (.int nw)) μ) : d_Haste_now K a [.ref n] μ C E := by
  refine ⟨rfl, ?_⟩
  unfold b_Haste_now
  (try simp only [fAsg, fPar, fPar2, fPar3, fIfS, fRet, fRetN, fDrop, fNil, fBreak, fCont, fAugN, fAugF, fApp, fRaise, mvL, moved, eVar, eVal, eOp2, eOp1, eTup, eLst, eNew, eIf, eAnd2, eOr2, eNot1, eFrz, asD, asB, eFld, eCall, eMake, eMeth, eSl, oNone, oSome, aNil, aCons, lNil, lCons, gNm, gFd, gIx, gTp, gsNil, gsCons, tTru, tBool, tAnd2, tOr2, tNot1, tYesD, addM_i, addM_s, addM_t, addM_oo, addM_bo, addM_ob, addM_lo, addM_ol, addM_ll, subM_i, mulM_i, mulM_o, fdivM_i, modM_i, intAddM_i, cmpM_i, min2M_i, max2M_i, negM_i, absM_i, toIntM_i, isnM_any, isN, eqM_i, eqM_b, eqM_s, eqM_t, ixM_t, ixM_o, ixM_l, ixM_k, ixM_r, ixM_b, truM_b, truM_i, truM_n, truM_t, truM_o, lenM, sumM, tupM, listM, slM, lget, lgetR, lput, iRng1D, iRng2D, iSeq, itOf, List.map_cons, List.map_nil, List.replicate_zero, List.replicate_succ, List.cons_append, List.nil_append, List.append_nil, List.getElem?_cons_succ, List.getElem?_cons_zero, List.set_cons_zero, List.set_cons_succ, List.length_cons, List.length_nil, Nat.reduceAdd, Nat.reduceSub, Nat.reduceLT, Nat.reduceLeDiff, Nat.sub_self, decide_eq_true_eq, sz0, sz1, sz2, sz3, sz4, sz5, sz6, sz7, sz8, ok_int, ok_bl, ok_non, ok_tup, ok_lst, eqb_int, eqb_bl, at0, at1, at2, at3, at4, at5, beq_iff_eq, ite_true, ite_false, Bool.false_eq_true, if_true, if_false, true_and, and_true, false_and, Bool.not_true, Bool.not_false, hm, o_Haste, lk_Haste__line, pi_Haste__line, pt_Haste__line, fk_Haste__line T, lk_Haste__now, pi_Haste__now, pt_Haste__now, fk_Haste__now T, lk_Haste__many, pi_Haste__many, pt_Haste__many, fk_Haste__many T, lk_Haste__things, pi_Haste__things, pt_Haste__things, fk_Haste__things T, lk_Haste__late, pi_Haste__late, pt_Haste__late, fk_Haste__late T, lm_Haste_now, tb_Haste_now, lm_Haste_put, tb_Haste_put, lm_Haste_waiting, tb_Haste_waiting, lm_Haste_late, tb_Haste_late, lm_Haste_overdue, tb_Haste_overdue, lm_Haste_tick, tb_Haste_tick])
  exact hC
theorem late_ (T : Tx K mg a) {n : Nat} {l nw m lt : Int} {ad : Addr} {ts : List Th} (hm : μ[n]? = some (hs a l nw m ad ts lt)) (hC : C (.val (.int lt)) μ) : d_Haste_late K a [.ref n] μ C E := by
  refine ⟨rfl, ?_⟩
  unfold b_Haste_late
  (try simp only [fAsg, fPar, fPar2, fPar3, fIfS, fRet, fRetN, fDrop, fNil, fBreak, fCont, fAugN, fAugF, fApp, fRaise, mvL, moved, eVar, eVal, eOp2, eOp1, eTup, eLst, eNew, eIf, eAnd2, eOr2, eNot1, eFrz, asD, asB, eFld, eCall, eMake, eMeth, eSl, oNone, oSome, aNil, aCons, lNil, lCons, gNm, gFd, gIx, gTp, gsNil, gsCons, tTru, tBool, tAnd2, tOr2, tNot1, tYesD, addM_i, addM_s, addM_t, addM_oo, addM_bo, addM_ob, addM_lo, addM_ol, addM_ll, subM_i, mulM_i, mulM_o, fdivM_i, modM_i, intAddM_i, cmpM_i, min2M_i, max2M_i, negM_i, absM_i, toIntM_i, isnM_any, isN, eqM_i, eqM_b, eqM_s, eqM_t, ixM_t, ixM_o, ixM_l, ixM_k, ixM_r, ixM_b, truM_b, truM_i, truM_n, truM_t, truM_o, lenM, sumM, tupM, listM, slM, lget, lgetR, lput, iRng1D, iRng2D, iSeq, itOf, List.map_cons, List.map_nil, List.replicate_zero, List.replicate_succ, List.cons_append, List.nil_append, List.append_nil, List.getElem?_cons_succ, List.getElem?_cons_zero, List.set_cons_zero, List.set_cons_succ, List.length_cons, List.length_nil, Nat.reduceAdd, Nat.reduceSub, Nat.reduceLT, Nat.reduceLeDiff, Nat.sub_self, decide_eq_true_eq, sz0, sz1, sz2, sz3, sz4, sz5, sz6, sz7, sz8, ok_int, ok_bl, ok_non, ok_tup, ok_lst, eqb_int, eqb_bl, at0, at1, at2, at3, at4, at5, beq_iff_eq, ite_true, ite_false, Bool.false_eq_true, if_true, if_false, true_and, and_true, false_and, Bool.not_true, Bool.not_false, hm, o_Haste, lk_Haste__line, pi_Haste__line, pt_Haste__line, fk_Haste__line T, lk_Haste__now, pi_Haste__now, pt_Haste__now, fk_Haste__now T, lk_Haste__many, pi_Haste__many, pt_Haste__many, fk_Haste__many T, lk_Haste__things, pi_Haste__things, pt_Haste__things, fk_Haste__things T, lk_Haste__late, pi_Haste__late, pt_Haste__late, fk_Haste__late T, lm_Haste_now, tb_Haste_now, lm_Haste_put, tb_Haste_put, lm_Haste_waiting, tb_Haste_waiting, lm_Haste_late, tb_Haste_late, lm_Haste_overdue, tb_Haste_overdue, lm_Haste_tick, tb_Haste_tick])
  exact hC
theorem put_ (T : Tx K mg a) {n : Nat} {l nw m lt sz dl : Int} {ad : Addr} {ts : List Th} (hm : μ[n]? = some (hs a l nw m ad ts lt)) (hts : ts.length < 1000)
    (hC : ∀ μ', μ'[n]? = some (hs a l nw (m + 1) ad (ts ++ [(nw + dl - 1, m, sz)]) lt) → Oth n μ μ' → C (.val (.int m)) μ') : d_Haste_put K a [.ref n, .int sz, .int dl] μ C E := by
  have hl : n < μ.length := (List.getElem?_eq_some_iff.mp hm).1
  refine ⟨rfl, fCons.go ?_⟩
  (try simp only [fAsg, fPar, fPar2, fPar3, fIfS, fRet, fRetN, fDrop, fNil, fBreak, fCont, fAugN, fAugF, fApp, fRaise, mvL, moved, eVar, eVal, eOp2, eOp1, eTup, eLst, eNew, eIf, eAnd2, eOr2, eNot1, eFrz, asD, asB, eFld, eCall, eMake, eMeth, eSl, oNone, oSome, aNil, aCons, lNil, lCons, gNm, gFd, gIx, gTp, gsNil, gsCons, tTru, tBool, tAnd2, tOr2, tNot1, tYesD, addM_i, addM_s, addM_t, addM_oo, addM_bo, addM_ob, addM_lo, addM_ol, addM_ll, subM_i, mulM_i, mulM_o, fdivM_i, modM_i, intAddM_i, cmpM_i, min2M_i, max2M_i, negM_i, absM_i, toIntM_i, isnM_any, isN, eqM_i, eqM_b, eqM_s, eqM_t, ixM_t, ixM_o, ixM_l, ixM_k, ixM_r, ixM_b, truM_b, truM_i, truM_n, truM_t, truM_o, lenM, sumM, tupM, listM, slM, lget, lgetR, lput, iRng1D, iRng2D, iSeq, itOf, List.map_cons, List.map_nil, List.replicate_zero, List.replicate_succ, List.cons_append, List.nil_append, List.append_nil, List.getElem?_cons_succ, List.getElem?_cons_zero, List.set_cons_zero, List.set_cons_succ, List.length_cons, List.length_nil, Nat.reduceAdd, Nat.reduceSub, Nat.reduceLT, Nat.reduceLeDiff, Nat.sub_self, decide_eq_true_eq, sz0, sz1, sz2, sz3, sz4, sz5, sz6, sz7, sz8, ok_int, ok_bl, ok_non, ok_tup, ok_lst, eqb_int, eqb_bl, at0, at1, at2, at3, at4, at5, beq_iff_eq, ite_true, ite_false, Bool.false_eq_true, if_true, if_false, true_and, and_true, false_and, Bool.not_true, Bool.not_false, hm, o_Haste, lk_Haste__line, pi_Haste__line, pt_Haste__line, fk_Haste__line T, lk_Haste__now, pi_Haste__now, pt_Haste__now, fk_Haste__now T, lk_Haste__many, pi_Haste__many, pt_Haste__many, fk_Haste__many T, lk_Haste__things, pi_Haste__things, pt_Haste__things, fk_Haste__things T, lk_Haste__late, pi_Haste__late, pt_Haste__late, fk_Haste__late T, lm_Haste_now, tb_Haste_now, lm_Haste_put, tb_Haste_put, lm_Haste_waiting, tb_Haste_waiting, lm_Haste_late, tb_Haste_late, lm_Haste_overdue, tb_Haste_overdue, lm_Haste_tick, tb_Haste_tick, List.length_map, Option.isSome_some])
  refine ⟨Nat.lt_of_lt_of_le hts (by decide), fCons.go ?_⟩
  (try simp only [fAsg, fPar, fPar2, fPar3, fIfS, fRet, fRetN, fDrop, fNil, fBreak, fCont, fAugN, fAugF, fApp, fRaise, mvL, moved, eVar, eVal, eOp2, eOp1, eTup, eLst, eNew, eIf, eAnd2, eOr2, eNot1, eFrz, asD, asB, eFld, eCall, eMake, eMeth, eSl, oNone, oSome, aNil, aCons, lNil, lCons, gNm, gFd, gIx, gTp, gsNil, gsCons, tTru, tBool, tAnd2, tOr2, tNot1, tYesD, addM_i, addM_s, addM_t, addM_oo, addM_bo, addM_ob, addM_lo, addM_ol, addM_ll, subM_i, mulM_i, mulM_o, fdivM_i, modM_i, intAddM_i, cmpM_i, min2M_i, max2M_i, negM_i, absM_i, toIntM_i, isnM_any, isN, eqM_i, eqM_b, eqM_s, eqM_t, ixM_t, ixM_o, ixM_l, ixM_k, ixM_r, ixM_b, truM_b, truM_i, truM_n, truM_t, truM_o, lenM, sumM, tupM, listM, slM, lget, lgetR, lput, iRng1D, iRng2D, iSeq, itOf, List.map_cons, List.map_nil, List.replicate_zero, List.replicate_succ, List.cons_append, List.nil_append, List.append_nil, List.getElem?_cons_succ, List.getElem?_cons_zero, List.set_cons_zero, List.set_cons_succ, List.length_cons, List.length_nil, Nat.reduceAdd, Nat.reduceSub, Nat.reduceLT, Nat.reduceLeDiff, Nat.sub_self, decide_eq_true_eq, sz0, sz1, sz2, sz3, sz4, sz5, sz6, sz7, sz8, ok_int, ok_bl, ok_non, ok_tup, ok_lst, eqb_int, eqb_bl, at0, at1, at2, at3, at4, at5, beq_iff_eq, ite_true, ite_false, Bool.false_eq_true, if_true, if_false, true_and, and_true, false_and, Bool.not_true, Bool.not_false, hm, o_Haste, lk_Haste__line, pi_Haste__line, pt_Haste__line, fk_Haste__line T, lk_Haste__now, pi_Haste__now, pt_Haste__now, fk_Haste__now T, lk_Haste__many, pi_Haste__many, pt_Haste__many, fk_Haste__many T, lk_Haste__things, pi_Haste__things, pt_Haste__things, fk_Haste__things T, lk_Haste__late, pi_Haste__late, pt_Haste__late, fk_Haste__late T, lm_Haste_now, tb_Haste_now, lm_Haste_put, tb_Haste_put, lm_Haste_waiting, tb_Haste_waiting, lm_Haste_late, tb_Haste_late, lm_Haste_overdue, tb_Haste_overdue, lm_Haste_tick, tb_Haste_tick, List.getElem?_set_self hl, List.set_set])
  rw [show m + 1 - 1 = m by omega]
  refine hC _ ?_ (Oth.set n μ _)
  rw [List.getElem?_set_self hl]
  simp [hs, o_Haste, tD, rowD, thL]
theorem sum_sizes (ts : List Th) (q : Th → Bool) (F : D → Option D) (hF : ∀ t, F (tD t) = if q t then some (.int t.2.2) else none) : (ts.map tD).filterMap F = ((ts.filter q).map fun t => t.2.2).map D.int := by
  induction ts with
  | nil => rfl
  | cons t r ih =>
    rw [List.map_cons, List.filterMap_cons, hF, List.filter_cons]
    cases q t <;> simp [ih]
theorem waiting_ (T : Tx K mg a) {n : Nat} {l nw m lt : Int} {ad : Addr} {ts : List Th} (hm : μ[n]? = some (hs a l nw m ad ts lt)) (hts : ts.length < 1000) (hC : C (.val (.int (ts.map fun t => t.2.2).sum)) μ) : d_Haste_waiting K a [.ref n] μ C E := by
  refine ⟨rfl, ?_⟩
  unfold b_Haste_waiting
  (try simp only [fAsg, fPar, fPar2, fPar3, fIfS, fRet, fRetN, fDrop, fNil, fBreak, fCont, fAugN, fAugF, fApp, fRaise, mvL, moved, eVar, eVal, eOp2, eOp1, eTup, eLst, eNew, eIf, eAnd2, eOr2, eNot1, eFrz, asD, asB, eFld, eCall, eMake, eMeth, eSl, oNone, oSome, aNil, aCons, lNil, lCons, gNm, gFd, gIx, gTp, gsNil, gsCons, tTru, tBool, tAnd2, tOr2, tNot1, tYesD, addM_i, addM_s, addM_t, addM_oo, addM_bo, addM_ob, addM_lo, addM_ol, addM_ll, subM_i, mulM_i, mulM_o, fdivM_i, modM_i, intAddM_i, cmpM_i, min2M_i, max2M_i, negM_i, absM_i, toIntM_i, isnM_any, isN, eqM_i, eqM_b, eqM_s, eqM_t, ixM_t, ixM_o, ixM_l, ixM_k, ixM_r, ixM_b, truM_b, truM_i, truM_n, truM_t, truM_o, lenM, sumM, tupM, listM, slM, lget, lgetR, lput, iRng1D, iRng2D, iSeq, itOf, List.map_cons, List.map_nil, List.replicate_zero, List.replicate_succ, List.cons_append, List.nil_append, List.append_nil, List.getElem?_cons_succ, List.getElem?_cons_zero, List.set_cons_zero, List.set_cons_succ, List.length_cons, List.length_nil, Nat.reduceAdd, Nat.reduceSub, Nat.reduceLT, Nat.reduceLeDiff, Nat.sub_self, decide_eq_true_eq, sz0, sz1, sz2, sz3, sz4, sz5, sz6, sz7, sz8, ok_int, ok_bl, ok_non, ok_tup, ok_lst, eqb_int, eqb_bl, at0, at1, at2, at3, at4, at5, beq_iff_eq, ite_true, ite_false, Bool.false_eq_true, if_true, if_false, true_and, and_true, false_and, Bool.not_true, Bool.not_false, eLc_eq, hm, o_Haste, lk_Haste__line, pi_Haste__line, pt_Haste__line, fk_Haste__line T, lk_Haste__now, pi_Haste__now, pt_Haste__now, fk_Haste__now T, lk_Haste__many, pi_Haste__many, pt_Haste__many, fk_Haste__many T, lk_Haste__things, pi_Haste__things, pt_Haste__things, fk_Haste__things T, lk_Haste__late, pi_Haste__late, pt_Haste__late, fk_Haste__late T, lm_Haste_now, tb_Haste_now, lm_Haste_put, tb_Haste_put, lm_Haste_waiting, tb_Haste_waiting, lm_Haste_late, tb_Haste_late, lm_Haste_overdue, tb_Haste_overdue, lm_Haste_tick, tb_Haste_tick, Option.isSome_some])
  refine lc_liv (ds := ts.map tD) (fun d => match d with | .tup [_, _, .int s] => some (.int s) | _ => none) (sz (by rw [List.length_map]; omega)) ?_ (fun d hd => ?_) ?_
  · (try simp only [fAsg, fPar, fPar2, fPar3, fIfS, fRet, fRetN, fDrop, fNil, fBreak, fCont, fAugN, fAugF, fApp, fRaise, mvL, moved, eVar, eVal, eOp2, eOp1, eTup, eLst, eNew, eIf, eAnd2, eOr2, eNot1, eFrz, asD, asB, eFld, eCall, eMake, eMeth, eSl, oNone, oSome, aNil, aCons, lNil, lCons, gNm, gFd, gIx, gTp, gsNil, gsCons, tTru, tBool, tAnd2, tOr2, tNot1, tYesD, addM_i, addM_s, addM_t, addM_oo, addM_bo, addM_ob, addM_lo, addM_ol, addM_ll, subM_i, mulM_i, mulM_o, fdivM_i, modM_i, intAddM_i, cmpM_i, min2M_i, max2M_i, negM_i, absM_i, toIntM_i, isnM_any, isN, eqM_i, eqM_b, eqM_s, eqM_t, ixM_t, ixM_o, ixM_l, ixM_k, ixM_r, ixM_b, truM_b, truM_i, truM_n, truM_t, truM_o, lenM, sumM, tupM, listM, slM, lget, lgetR, lput, iRng1D, iRng2D, iSeq, itOf, List.map_cons, List.map_nil, List.replicate_zero, List.replicate_succ, List.cons_append, List.nil_append, List.append_nil, List.getElem?_cons_succ, List.getElem?_cons_zero, List.set_cons_zero, List.set_cons_succ, List.length_cons, List.length_nil, Nat.reduceAdd, Nat.reduceSub, Nat.reduceLT, Nat.reduceLeDiff, Nat.sub_self, decide_eq_true_eq, sz0, sz1, sz2, sz3, sz4, sz5, sz6, sz7, sz8, ok_int, ok_bl, ok_non, ok_tup, ok_lst, eqb_int, eqb_bl, at0, at1, at2, at3, at4, at5, beq_iff_eq, ite_true, ite_false, Bool.false_eq_true, if_true, if_false, true_and, and_true, false_and, Bool.not_true, Bool.not_false, hm, o_Haste, lk_Haste__line, pi_Haste__line, pt_Haste__line, fk_Haste__line T, lk_Haste__now, pi_Haste__now, pt_Haste__now, fk_Haste__now T, lk_Haste__many, pi_Haste__many, pt_Haste__many, fk_Haste__many T, lk_Haste__things, pi_Haste__things, pt_Haste__things, fk_Haste__things T, lk_Haste__late, pi_Haste__late, pt_Haste__late, fk_Haste__late T, lm_Haste_now, tb_Haste_now, lm_Haste_put, tb_Haste_put, lm_Haste_waiting, tb_Haste_waiting, lm_Haste_late, tb_Haste_late, lm_Haste_overdue, tb_Haste_overdue, lm_Haste_tick, tb_Haste_tick])
  · obtain ⟨t, _, rfl⟩ := List.mem_map.mp hd
    refine ⟨_, rfl, fun R hR => ?_⟩
    (try simp only [fAsg, fPar, fPar2, fPar3, fIfS, fRet, fRetN, fDrop, fNil, fBreak, fCont, fAugN, fAugF, fApp, fRaise, mvL, moved, eVar, eVal, eOp2, eOp1, eTup, eLst, eNew, eIf, eAnd2, eOr2, eNot1, eFrz, asD, asB, eFld, eCall, eMake, eMeth, eSl, oNone, oSome, aNil, aCons, lNil, lCons, gNm, gFd, gIx, gTp, gsNil, gsCons, tTru, tBool, tAnd2, tOr2, tNot1, tYesD, addM_i, addM_s, addM_t, addM_oo, addM_bo, addM_ob, addM_lo, addM_ol, addM_ll, subM_i, mulM_i, mulM_o, fdivM_i, modM_i, intAddM_i, cmpM_i, min2M_i, max2M_i, negM_i, absM_i, toIntM_i, isnM_any, isN, eqM_i, eqM_b, eqM_s, eqM_t, ixM_t, ixM_o, ixM_l, ixM_k, ixM_r, ixM_b, truM_b, truM_i, truM_n, truM_t, truM_o, lenM, sumM, tupM, listM, slM, lget, lgetR, lput, iRng1D, iRng2D, iSeq, itOf, List.map_cons, List.map_nil, List.replicate_zero, List.replicate_succ, List.cons_append, List.nil_append, List.append_nil, List.getElem?_cons_succ, List.getElem?_cons_zero, List.set_cons_zero, List.set_cons_succ, List.length_cons, List.length_nil, Nat.reduceAdd, Nat.reduceSub, Nat.reduceLT, Nat.reduceLeDiff, Nat.sub_self, decide_eq_true_eq, sz0, sz1, sz2, sz3, sz4, sz5, sz6, sz7, sz8, ok_int, ok_bl, ok_non, ok_tup, ok_lst, eqb_int, eqb_bl, at0, at1, at2, at3, at4, at5, beq_iff_eq, ite_true, ite_false, Bool.false_eq_true, if_true, if_false, true_and, and_true, false_and, Bool.not_true, Bool.not_false, wipeD])
    exact hR
  · intro _
    rw [sum_sizes ts (fun _ => true) _ fun t => rfl]
    (try simp only [fAsg, fPar, fPar2, fPar3, fIfS, fRet, fRetN, fDrop, fNil, fBreak, fCont, fAugN, fAugF, fApp, fRaise, mvL, moved, eVar, eVal, eOp2, eOp1, eTup, eLst, eNew, eIf, eAnd2, eOr2, eNot1, eFrz, asD, asB, eFld, eCall, eMake, eMeth, eSl, oNone, oSome, aNil, aCons, lNil, lCons, gNm, gFd, gIx, gTp, gsNil, gsCons, tTru, tBool, tAnd2, tOr2, tNot1, tYesD, addM_i, addM_s, addM_t, addM_oo, addM_bo, addM_ob, addM_lo, addM_ol, addM_ll, subM_i, mulM_i, mulM_o, fdivM_i, modM_i, intAddM_i, cmpM_i, min2M_i, max2M_i, negM_i, absM_i, toIntM_i, isnM_any, isN, eqM_i, eqM_b, eqM_s, eqM_t, ixM_t, ixM_o, ixM_l, ixM_k, ixM_r, ixM_b, truM_b, truM_i, truM_n, truM_t, truM_o, lenM, sumM, tupM, listM, slM, lget, lgetR, lput, iRng1D, iRng2D, iSeq, itOf, List.map_cons, List.map_nil, List.replicate_zero, List.replicate_succ, List.cons_append, List.nil_append, List.append_nil, List.getElem?_cons_succ, List.getElem?_cons_zero, List.set_cons_zero, List.set_cons_succ, List.length_cons, List.length_nil, Nat.reduceAdd, Nat.reduceSub, Nat.reduceLT, Nat.reduceLeDiff, Nat.sub_self, decide_eq_true_eq, sz0, sz1, sz2, sz3, sz4, sz5, sz6, sz7, sz8, ok_int, ok_bl, ok_non, ok_tup, ok_lst, eqb_int, eqb_bl, at0, at1, at2, at3, at4, at5, beq_iff_eq, ite_true, ite_false, Bool.false_eq_true, if_true, if_false, true_and, and_true, false_and, Bool.not_true, Bool.not_false, intsOf_map])
    rw [List.filter_eq_self.mpr fun _ _ => rfl]
    exact hC
theorem sum_filter (nw : Int) (ts : List Th) : ((ts.filter fun t => decide (t.1 < nw)).map fun t => t.2.2).sum = (ts.map fun t => if t.1 < nw then t.2.2 else 0).sum := by
  induction ts with
  | nil => rfl
  | cons t r ih =>
    rw [List.filter_cons, List.map_cons, List.sum_cons]
    by_cases h : t.1 < nw
    · simp [h, ih]
    · simp [h, ih]
theorem overdue_ (T : Tx K mg a) {n : Nat} {l nw m lt : Int} {ad : Addr} {ts : List Th} (hm : μ[n]? = some (hs a l nw m ad ts lt)) (hts : ts.length < 1000) (hC : C (.val (.int (ts.map fun t => if t.1 < nw then t.2.2 else 0).sum)) μ) : d_Haste_overdue K a [.ref n] μ C E := by
  refine ⟨rfl, ?_⟩
  unfold b_Haste_overdue
  (try simp only [fAsg, fPar, fPar2, fPar3, fIfS, fRet, fRetN, fDrop, fNil, fBreak, fCont, fAugN, fAugF, fApp, fRaise, mvL, moved, eVar, eVal, eOp2, eOp1, eTup, eLst, eNew, eIf, eAnd2, eOr2, eNot1, eFrz, asD, asB, eFld, eCall, eMake, eMeth, eSl, oNone, oSome, aNil, aCons, lNil, lCons, gNm, gFd, gIx, gTp, gsNil, gsCons, tTru, tBool, tAnd2, tOr2, tNot1, tYesD, addM_i, addM_s, addM_t, addM_oo, addM_bo, addM_ob, addM_lo, addM_ol, addM_ll, subM_i, mulM_i, mulM_o, fdivM_i, modM_i, intAddM_i, cmpM_i, min2M_i, max2M_i, negM_i, absM_i, toIntM_i, isnM_any, isN, eqM_i, eqM_b, eqM_s, eqM_t, ixM_t, ixM_o, ixM_l, ixM_k, ixM_r, ixM_b, truM_b, truM_i, truM_n, truM_t, truM_o, lenM, sumM, tupM, listM, slM, lget, lgetR, lput, iRng1D, iRng2D, iSeq, itOf, List.map_cons, List.map_nil, List.replicate_zero, List.replicate_succ, List.cons_append, List.nil_append, List.append_nil, List.getElem?_cons_succ, List.getElem?_cons_zero, List.set_cons_zero, List.set_cons_succ, List.length_cons, List.length_nil, Nat.reduceAdd, Nat.reduceSub, Nat.reduceLT, Nat.reduceLeDiff, Nat.sub_self, decide_eq_true_eq, sz0, sz1, sz2, sz3, sz4, sz5, sz6, sz7, sz8, ok_int, ok_bl, ok_non, ok_tup, ok_lst, eqb_int, eqb_bl, at0, at1, at2, at3, at4, at5, beq_iff_eq, ite_true, ite_false, Bool.false_eq_true, if_true, if_false, true_and, and_true, false_and, Bool.not_true, Bool.not_false, eLc_eq, hm, o_Haste, lk_Haste__line, pi_Haste__line, pt_Haste__line, fk_Haste__line T, lk_Haste__now, pi_Haste__now, pt_Haste__now, fk_Haste__now T, lk_Haste__many, pi_Haste__many, pt_Haste__many, fk_Haste__many T, lk_Haste__things, pi_Haste__things, pt_Haste__things, fk_Haste__things T, lk_Haste__late, pi_Haste__late, pt_Haste__late, fk_Haste__late T, lm_Haste_now, tb_Haste_now, lm_Haste_put, tb_Haste_put, lm_Haste_waiting, tb_Haste_waiting, lm_Haste_late, tb_Haste_late, lm_Haste_overdue, tb_Haste_overdue, lm_Haste_tick, tb_Haste_tick, Option.isSome_some])
  refine lc_liv (ds := ts.map tD) (fun d => match d with | .tup [.int d, _, .int s] => if d < nw then some (.int s) else none | _ => none) (sz (by rw [List.length_map]; omega)) ?_ (fun d hd => ?_) ?_
  · (try simp only [fAsg, fPar, fPar2, fPar3, fIfS, fRet, fRetN, fDrop, fNil, fBreak, fCont, fAugN, fAugF, fApp, fRaise, mvL, moved, eVar, eVal, eOp2, eOp1, eTup, eLst, eNew, eIf, eAnd2, eOr2, eNot1, eFrz, asD, asB, eFld, eCall, eMake, eMeth, eSl, oNone, oSome, aNil, aCons, lNil, lCons, gNm, gFd, gIx, gTp, gsNil, gsCons, tTru, tBool, tAnd2, tOr2, tNot1, tYesD, addM_i, addM_s, addM_t, addM_oo, addM_bo, addM_ob, addM_lo, addM_ol, addM_ll, subM_i, mulM_i, mulM_o, fdivM_i, modM_i, intAddM_i, cmpM_i, min2M_i, max2M_i, negM_i, absM_i, toIntM_i, isnM_any, isN, eqM_i, eqM_b, eqM_s, eqM_t, ixM_t, ixM_o, ixM_l, ixM_k, ixM_r, ixM_b, truM_b, truM_i, truM_n, truM_t, truM_o, lenM, sumM, tupM, listM, slM, lget, lgetR, lput, iRng1D, iRng2D, iSeq, itOf, List.map_cons, List.map_nil, List.replicate_zero, List.replicate_succ, List.cons_append, List.nil_append, List.append_nil, List.getElem?_cons_succ, List.getElem?_cons_zero, List.set_cons_zero, List.set_cons_succ, List.length_cons, List.length_nil, Nat.reduceAdd, Nat.reduceSub, Nat.reduceLT, Nat.reduceLeDiff, Nat.sub_self, decide_eq_true_eq, sz0, sz1, sz2, sz3, sz4, sz5, sz6, sz7, sz8, ok_int, ok_bl, ok_non, ok_tup, ok_lst, eqb_int, eqb_bl, at0, at1, at2, at3, at4, at5, beq_iff_eq, ite_true, ite_false, Bool.false_eq_true, if_true, if_false, true_and, and_true, false_and, Bool.not_true, Bool.not_false, hm, o_Haste, lk_Haste__line, pi_Haste__line, pt_Haste__line, fk_Haste__line T, lk_Haste__now, pi_Haste__now, pt_Haste__now, fk_Haste__now T, lk_Haste__many, pi_Haste__many, pt_Haste__many, fk_Haste__many T, lk_Haste__things, pi_Haste__things, pt_Haste__things, fk_Haste__things T, lk_Haste__late, pi_Haste__late, pt_Haste__late, fk_Haste__late T, lm_Haste_now, tb_Haste_now, lm_Haste_put, tb_Haste_put, lm_Haste_waiting, tb_Haste_waiting, lm_Haste_late, tb_Haste_late, lm_Haste_overdue, tb_Haste_overdue, lm_Haste_tick, tb_Haste_tick])
  · obtain ⟨t, _, rfl⟩ := List.mem_map.mp hd
    refine ⟨_, rfl, fun R hR => ?_⟩
    have hR' : R (if t.1 < nw then some (.int t.2.2) else none) := hR
    (try simp only [fAsg, fPar, fPar2, fPar3, fIfS, fRet, fRetN, fDrop, fNil, fBreak, fCont, fAugN, fAugF, fApp, fRaise, mvL, moved, eVar, eVal, eOp2, eOp1, eTup, eLst, eNew, eIf, eAnd2, eOr2, eNot1, eFrz, asD, asB, eFld, eCall, eMake, eMeth, eSl, oNone, oSome, aNil, aCons, lNil, lCons, gNm, gFd, gIx, gTp, gsNil, gsCons, tTru, tBool, tAnd2, tOr2, tNot1, tYesD, addM_i, addM_s, addM_t, addM_oo, addM_bo, addM_ob, addM_lo, addM_ol, addM_ll, subM_i, mulM_i, mulM_o, fdivM_i, modM_i, intAddM_i, cmpM_i, min2M_i, max2M_i, negM_i, absM_i, toIntM_i, isnM_any, isN, eqM_i, eqM_b, eqM_s, eqM_t, ixM_t, ixM_o, ixM_l, ixM_k, ixM_r, ixM_b, truM_b, truM_i, truM_n, truM_t, truM_o, lenM, sumM, tupM, listM, slM, lget, lgetR, lput, iRng1D, iRng2D, iSeq, itOf, List.map_cons, List.map_nil, List.replicate_zero, List.replicate_succ, List.cons_append, List.nil_append, List.append_nil, List.getElem?_cons_succ, List.getElem?_cons_zero, List.set_cons_zero, List.set_cons_succ, List.length_cons, List.length_nil, Nat.reduceAdd, Nat.reduceSub, Nat.reduceLT, Nat.reduceLeDiff, Nat.sub_self, decide_eq_true_eq, sz0, sz1, sz2, sz3, sz4, sz5, sz6, sz7, sz8, ok_int, ok_bl, ok_non, ok_tup, ok_lst, eqb_int, eqb_bl, at0, at1, at2, at3, at4, at5, beq_iff_eq, ite_true, ite_false, Bool.false_eq_true, if_true, if_false, true_and, and_true, false_and, Bool.not_true, Bool.not_false, wipeD, hm, o_Haste, lk_Haste__line, pi_Haste__line, pt_Haste__line, fk_Haste__line T, lk_Haste__now, pi_Haste__now, pt_Haste__now, fk_Haste__now T, lk_Haste__many, pi_Haste__many, pt_Haste__many, fk_Haste__many T, lk_Haste__things, pi_Haste__things, pt_Haste__things, fk_Haste__things T, lk_Haste__late, pi_Haste__late, pt_Haste__late, fk_Haste__late T, lm_Haste_now, tb_Haste_now, lm_Haste_put, tb_Haste_put, lm_Haste_waiting, tb_Haste_waiting, lm_Haste_late, tb_Haste_late, lm_Haste_overdue, tb_Haste_overdue, lm_Haste_tick, tb_Haste_tick])
    by_cases h : t.1 < nw
    · rw [if_pos h] at hR' ⊢
      exact hR'
    · rw [if_neg h] at hR' ⊢
      exact hR'
  · intro _
    rw [sum_sizes ts (fun t => decide (t.1 < nw)) _ fun t => by by_cases h : t.1 < nw <;> simp [tD, rowD, thL, h]]
    (try simp only [fAsg, fPar, fPar2, fPar3, fIfS, fRet, fRetN, fDrop, fNil, fBreak, fCont, fAugN, fAugF, fApp, fRaise, mvL, moved, eVar, eVal, eOp2, eOp1, eTup, eLst, eNew, eIf, eAnd2, eOr2, eNot1, eFrz, asD, asB, eFld, eCall, eMake, eMeth, eSl, oNone, oSome, aNil, aCons, lNil, lCons, gNm, gFd, gIx, gTp, gsNil, gsCons, tTru, tBool, tAnd2, tOr2, tNot1, tYesD, addM_i, addM_s, addM_t, addM_oo, addM_bo, addM_ob, addM_lo, addM_ol, addM_ll, subM_i, mulM_i, mulM_o, fdivM_i, modM_i, intAddM_i, cmpM_i, min2M_i, max2M_i, negM_i, absM_i, toIntM_i, isnM_any, isN, eqM_i, eqM_b, eqM_s, eqM_t, ixM_t, ixM_o, ixM_l, ixM_k, ixM_r, ixM_b, truM_b, truM_i, truM_n, truM_t, truM_o, lenM, sumM, tupM, listM, slM, lget, lgetR, lput, iRng1D, iRng2D, iSeq, itOf, List.map_cons, List.map_nil, List.replicate_zero, List.replicate_succ, List.cons_append, List.nil_append, List.append_nil, List.getElem?_cons_succ, List.getElem?_cons_zero, List.set_cons_zero, List.set_cons_succ, List.length_cons, List.length_nil, Nat.reduceAdd, Nat.reduceSub, Nat.reduceLT, Nat.reduceLeDiff, Nat.sub_self, decide_eq_true_eq, sz0, sz1, sz2, sz3, sz4, sz5, sz6, sz7, sz8, ok_int, ok_bl, ok_non, ok_tup, ok_lst, eqb_int, eqb_bl, at0, at1, at2, at3, at4, at5, beq_iff_eq, ite_true, ite_false, Bool.false_eq_true, if_true, if_false, true_and, and_true, false_and, Bool.not_true, Bool.not_false, intsOf_map])
    rw [sum_filter]
    exact hC
def nD (t : Th) : D := .tup [.int t.2.1, .int t.2.2]
/-- a tick's state at the i-th thing -/
def TkS (a : Ad) (n : Nat) (l nw m : Int) (adT : Addr) (ts ts' : List Th) (lt : Int) (i : Nat) (δ : Sl) (μ0 μ : Mu) : Prop := ∃ left f k lt' ad1 ad2 y4 y5 y6 y7, δ = [some (.val (.ref n)), some (.val (.int left)), some (.own ad1 (f.map nD)), some (.own ad2 (k.map tD)), y4, y5, y6, y7] ∧
  0 ≤ left ∧ f.length ≤ i ∧ k.length ≤ i ∧ f ++ fnd left (ts'.drop i) = fnd l ts' ∧ k ++ kpt left (ts'.drop i) = kpt l ts' ∧ lt' + lateOf nw (fnd left (ts'.drop i)) = lt + lateOf nw (fnd l ts') ∧
  μ[n]? = some (hs a l nw m adT ts lt') ∧ Oth n μ0 μ
theorem tick_loop (T : Tx K mg a) {n : Nat} {l nw m lt : Int} {adT : Addr} {ts : List Th} {D' : FD} {δ : Sl} (hts : ts.length < 1000) (hp : Pos ts) (hl0 : 0 ≤ l)
    (hδ : ∃ ad1 ad2 y4 y5 y6 y7, δ = [some (.val (.ref n)), some (.val (.int l)), some (.own ad1 []), some (.own ad2 []), y4, y5, y6, y7]) (hm : μ[n]? = some (hs a l nw m adT ts lt))
    (hN : ∀ ts' δ' μ', ts'.Perm ts → ts'.Pairwise (fun x y => lexI (thL y) (thL x) = false) → TkS a n l nw m adT ts ts' lt ts'.length δ' μ μ' → D'.nx δ' μ') : L_Haste_tick_1 K a D' δ μ := by
  obtain ⟨ad1, ad2, y4, y5, y6, y7, rfl⟩ := hδ
  unfold L_Haste_tick_1
  rw [fFor_eq]
  (try simp only [fAsg, fPar, fPar2, fPar3, fIfS, fRet, fRetN, fDrop, fNil, fBreak, fCont, fAugN, fAugF, fApp, fRaise, mvL, moved, eVar, eVal, eOp2, eOp1, eTup, eLst, eNew, eIf, eAnd2, eOr2, eNot1, eFrz, asD, asB, eFld, eCall, eMake, eMeth, eSl, oNone, oSome, aNil, aCons, lNil, lCons, gNm, gFd, gIx, gTp, gsNil, gsCons, tTru, tBool, tAnd2, tOr2, tNot1, tYesD, addM_i, addM_s, addM_t, addM_oo, addM_bo, addM_ob, addM_lo, addM_ol, addM_ll, subM_i, mulM_i, mulM_o, fdivM_i, modM_i, intAddM_i, cmpM_i, min2M_i, max2M_i, negM_i, absM_i, toIntM_i, isnM_any, isN, eqM_i, eqM_b, eqM_s, eqM_t, ixM_t, ixM_o, ixM_l, ixM_k, ixM_r, ixM_b, truM_b, truM_i, truM_n, truM_t, truM_o, lenM, sumM, tupM, listM, slM, lget, lgetR, lput, iRng1D, iRng2D, iSeq, itOf, List.map_cons, List.map_nil, List.replicate_zero, List.replicate_succ, List.cons_append, List.nil_append, List.append_nil, List.getElem?_cons_succ, List.getElem?_cons_zero, List.set_cons_zero, List.set_cons_succ, List.length_cons, List.length_nil, Nat.reduceAdd, Nat.reduceSub, Nat.reduceLT, Nat.reduceLeDiff, Nat.sub_self, decide_eq_true_eq, sz0, sz1, sz2, sz3, sz4, sz5, sz6, sz7, sz8, ok_int, ok_bl, ok_non, ok_tup, ok_lst, eqb_int, eqb_bl, at0, at1, at2, at3, at4, at5, beq_iff_eq, ite_true, ite_false, Bool.false_eq_true, if_true, if_false, true_and, and_true, false_and, Bool.not_true, Bool.not_false, hm, o_Haste, lk_Haste__line, pi_Haste__line, pt_Haste__line, fk_Haste__line T, lk_Haste__now, pi_Haste__now, pt_Haste__now, fk_Haste__now T, lk_Haste__many, pi_Haste__many, pt_Haste__many, fk_Haste__many T, lk_Haste__things, pi_Haste__things, pt_Haste__things, fk_Haste__things T, lk_Haste__late, pi_Haste__late, pt_Haste__late, fk_Haste__late T, lm_Haste_now, tb_Haste_now, lm_Haste_put, tb_Haste_put, lm_Haste_waiting, tb_Haste_waiting, lm_Haste_late, tb_Haste_late, lm_Haste_overdue, tb_Haste_overdue, lm_Haste_tick, tb_Haste_tick])
  refine sortM_rows (L := ts.map thL) (d := 3) ?_ (by decide) (fun l h => ?_) fun L' h1 h2 adL => ?_
  · (try simp only [fAsg, fPar, fPar2, fPar3, fIfS, fRet, fRetN, fDrop, fNil, fBreak, fCont, fAugN, fAugF, fApp, fRaise, mvL, moved, eVar, eVal, eOp2, eOp1, eTup, eLst, eNew, eIf, eAnd2, eOr2, eNot1, eFrz, asD, asB, eFld, eCall, eMake, eMeth, eSl, oNone, oSome, aNil, aCons, lNil, lCons, gNm, gFd, gIx, gTp, gsNil, gsCons, tTru, tBool, tAnd2, tOr2, tNot1, tYesD, addM_i, addM_s, addM_t, addM_oo, addM_bo, addM_ob, addM_lo, addM_ol, addM_ll, subM_i, mulM_i, mulM_o, fdivM_i, modM_i, intAddM_i, cmpM_i, min2M_i, max2M_i, negM_i, absM_i, toIntM_i, isnM_any, isN, eqM_i, eqM_b, eqM_s, eqM_t, ixM_t, ixM_o, ixM_l, ixM_k, ixM_r, ixM_b, truM_b, truM_i, truM_n, truM_t, truM_o, lenM, sumM, tupM, listM, slM, lget, lgetR, lput, iRng1D, iRng2D, iSeq, itOf, List.map_cons, List.map_nil, List.replicate_zero, List.replicate_succ, List.cons_append, List.nil_append, List.append_nil, List.getElem?_cons_succ, List.getElem?_cons_zero, List.set_cons_zero, List.set_cons_succ, List.length_cons, List.length_nil, Nat.reduceAdd, Nat.reduceSub, Nat.reduceLT, Nat.reduceLeDiff, Nat.sub_self, decide_eq_true_eq, sz0, sz1, sz2, sz3, sz4, sz5, sz6, sz7, sz8, ok_int, ok_bl, ok_non, ok_tup, ok_lst, eqb_int, eqb_bl, at0, at1, at2, at3, at4, at5, beq_iff_eq, ite_true, ite_false, Bool.false_eq_true, if_true, if_false, true_and, and_true, false_and, Bool.not_true, Bool.not_false, hm, o_Haste, lk_Haste__line, pi_Haste__line, pt_Haste__line, fk_Haste__line T, lk_Haste__now, pi_Haste__now, pt_Haste__now, fk_Haste__now T, lk_Haste__many, pi_Haste__many, pt_Haste__many, fk_Haste__many T, lk_Haste__things, pi_Haste__things, pt_Haste__things, fk_Haste__things T, lk_Haste__late, pi_Haste__late, pt_Haste__late, fk_Haste__late T, lm_Haste_now, tb_Haste_now, lm_Haste_put, tb_Haste_put, lm_Haste_waiting, tb_Haste_waiting, lm_Haste_late, tb_Haste_late, lm_Haste_overdue, tb_Haste_overdue, lm_Haste_tick, tb_Haste_tick])
    rw [List.map_map]
    rfl
  · obtain ⟨t, _, rfl⟩ := List.mem_map.mp h
    rfl
  obtain ⟨ts', rfl, pm⟩ := perm_rows (fun x y => thL_inj) h1
  have srt : ts'.Pairwise (fun x y => lexI (thL y) (thL x) = false) := List.pairwise_map.mp h2
  rw [List.map_map]
  (try simp only [fAsg, fPar, fPar2, fPar3, fIfS, fRet, fRetN, fDrop, fNil, fBreak, fCont, fAugN, fAugF, fApp, fRaise, mvL, moved, eVar, eVal, eOp2, eOp1, eTup, eLst, eNew, eIf, eAnd2, eOr2, eNot1, eFrz, asD, asB, eFld, eCall, eMake, eMeth, eSl, oNone, oSome, aNil, aCons, lNil, lCons, gNm, gFd, gIx, gTp, gsNil, gsCons, tTru, tBool, tAnd2, tOr2, tNot1, tYesD, addM_i, addM_s, addM_t, addM_oo, addM_bo, addM_ob, addM_lo, addM_ol, addM_ll, subM_i, mulM_i, mulM_o, fdivM_i, modM_i, intAddM_i, cmpM_i, min2M_i, max2M_i, negM_i, absM_i, toIntM_i, isnM_any, isN, eqM_i, eqM_b, eqM_s, eqM_t, ixM_t, ixM_o, ixM_l, ixM_k, ixM_r, ixM_b, truM_b, truM_i, truM_n, truM_t, truM_o, lenM, sumM, tupM, listM, slM, lget, lgetR, lput, iRng1D, iRng2D, iSeq, itOf, List.map_cons, List.map_nil, List.replicate_zero, List.replicate_succ, List.cons_append, List.nil_append, List.append_nil, List.getElem?_cons_succ, List.getElem?_cons_zero, List.set_cons_zero, List.set_cons_succ, List.length_cons, List.length_nil, Nat.reduceAdd, Nat.reduceSub, Nat.reduceLT, Nat.reduceLeDiff, Nat.sub_self, decide_eq_true_eq, sz0, sz1, sz2, sz3, sz4, sz5, sz6, sz7, sz8, ok_int, ok_bl, ok_non, ok_tup, ok_lst, eqb_int, eqb_bl, at0, at1, at2, at3, at4, at5, beq_iff_eq, ite_true, ite_false, Bool.false_eq_true, if_true, if_false, true_and, and_true, false_and, Bool.not_true, Bool.not_false])
  have ps : Pos ts' := fun t h => hp t (pm.mem_iff.mp h)
  have len : ts'.length = ts.length := pm.length_eq
  refine loop_fix (fun i δ μ' => TkS a n l nw m adT ts ts' lt i δ μ μ') ⟨l, [], [], lt, ad1, ad2, y4, y5, y6, y7, rfl, hl0, Nat.le_refl _, Nat.le_refl _, rfl, rfl, rfl, hm, Oth.refl n μ⟩ ?_ fun δ' μ' q => ?_
  · rintro i δ' μ' d hd ⟨left, f, k, lt', ad1, ad2, y4, y5, y6, y7, rfl, p0, p1, p2, e1, e2, e3, hm', o⟩
    rw [List.getElem?_map] at hd
    cases q : ts'[i]? with
    | none => rw [q] at hd; cases hd
    | some t =>
      rw [q] at hd
      cases hd
      have lt_i : i < ts'.length := (List.getElem?_eq_some_iff.mp q).1
      have dr : ts'.drop i = t :: ts'.drop (i + 1) := by
        rw [List.drop_eq_getElem_cons lt_i]
        rw [List.getElem?_eq_getElem lt_i] at q
        rw [Option.some.inj q]
      have tp := ps t (List.mem_of_getElem? q)
      obtain ⟨q0, q1, q2⟩ := part_le p0 tp
      have hl : n < μ'.length := (List.getElem?_eq_some_iff.mp hm').1
      rw [dr] at e1 e2 e3
      simp only [fnd, kpt, lateOf_app] at e1 e2 e3
      (try simp only [fAsg, fPar, fPar2, fPar3, fIfS, fRet, fRetN, fDrop, fNil, fBreak, fCont, fAugN, fAugF, fApp, fRaise, mvL, moved, eVar, eVal, eOp2, eOp1, eTup, eLst, eNew, eIf, eAnd2, eOr2, eNot1, eFrz, asD, asB, eFld, eCall, eMake, eMeth, eSl, oNone, oSome, aNil, aCons, lNil, lCons, gNm, gFd, gIx, gTp, gsNil, gsCons, tTru, tBool, tAnd2, tOr2, tNot1, tYesD, addM_i, addM_s, addM_t, addM_oo, addM_bo, addM_ob, addM_lo, addM_ol, addM_ll, subM_i, mulM_i, mulM_o, fdivM_i, modM_i, intAddM_i, cmpM_i, min2M_i, max2M_i, negM_i, absM_i, toIntM_i, isnM_any, isN, eqM_i, eqM_b, eqM_s, eqM_t, ixM_t, ixM_o, ixM_l, ixM_k, ixM_r, ixM_b, truM_b, truM_i, truM_n, truM_t, truM_o, lenM, sumM, tupM, listM, slM, lget, lgetR, lput, iRng1D, iRng2D, iSeq, itOf, List.map_cons, List.map_nil, List.replicate_zero, List.replicate_succ, List.cons_append, List.nil_append, List.append_nil, List.getElem?_cons_succ, List.getElem?_cons_zero, List.set_cons_zero, List.set_cons_succ, List.length_cons, List.length_nil, Nat.reduceAdd, Nat.reduceSub, Nat.reduceLT, Nat.reduceLeDiff, Nat.sub_self, decide_eq_true_eq, sz0, sz1, sz2, sz3, sz4, sz5, sz6, sz7, sz8, ok_int, ok_bl, ok_non, ok_tup, ok_lst, eqb_int, eqb_bl, at0, at1, at2, at3, at4, at5, beq_iff_eq, ite_true, ite_false, Bool.false_eq_true, if_true, if_false, true_and, and_true, false_and, Bool.not_true, Bool.not_false, Function.comp, tD, rowD, thL])
      refine fCons.go ?_
      (try simp only [fAsg, fPar, fPar2, fPar3, fIfS, fRet, fRetN, fDrop, fNil, fBreak, fCont, fAugN, fAugF, fApp, fRaise, mvL, moved, eVar, eVal, eOp2, eOp1, eTup, eLst, eNew, eIf, eAnd2, eOr2, eNot1, eFrz, asD, asB, eFld, eCall, eMake, eMeth, eSl, oNone, oSome, aNil, aCons, lNil, lCons, gNm, gFd, gIx, gTp, gsNil, gsCons, tTru, tBool, tAnd2, tOr2, tNot1, tYesD, addM_i, addM_s, addM_t, addM_oo, addM_bo, addM_ob, addM_lo, addM_ol, addM_ll, subM_i, mulM_i, mulM_o, fdivM_i, modM_i, intAddM_i, cmpM_i, min2M_i, max2M_i, negM_i, absM_i, toIntM_i, isnM_any, isN, eqM_i, eqM_b, eqM_s, eqM_t, ixM_t, ixM_o, ixM_l, ixM_k, ixM_r, ixM_b, truM_b, truM_i, truM_n, truM_t, truM_o, lenM, sumM, tupM, listM, slM, lget, lgetR, lput, iRng1D, iRng2D, iSeq, itOf, List.map_cons, List.map_nil, List.replicate_zero, List.replicate_succ, List.cons_append, List.nil_append, List.append_nil, List.getElem?_cons_succ, List.getElem?_cons_zero, List.set_cons_zero, List.set_cons_succ, List.length_cons, List.length_nil, Nat.reduceAdd, Nat.reduceSub, Nat.reduceLT, Nat.reduceLeDiff, Nat.sub_self, decide_eq_true_eq, sz0, sz1, sz2, sz3, sz4, sz5, sz6, sz7, sz8, ok_int, ok_bl, ok_non, ok_tup, ok_lst, eqb_int, eqb_bl, at0, at1, at2, at3, at4, at5, beq_iff_eq, ite_true, ite_false, Bool.false_eq_true, if_true, if_false, true_and, and_true, false_and, Bool.not_true, Bool.not_false])
      have ep : (if left < t.2.2 then left else t.2.2) = part left t := rfl
      rw [ep]
      refine ⟨fun δ2 μ2 => ∃ ad1 lt2, δ2 = [some (.val (.ref n)), some (.val (.int left)), some (.own ad1 ((f ++ (if 0 < part left t then [(t.1, t.2.1, part left t)] else [])).map nD)), some (.own ad2 (k.map tD)), some (.val (.int t.1)), some (.val (.int t.2.1)), some (.val (.int t.2.2)), some (.val (.int (part left t)))] ∧
        lt2 = lt' + lateOf nw (if 0 < part left t then [(t.1, t.2.1, part left t)] else []) ∧ μ2[n]? = some (hs a l nw m adT ts lt2) ∧ Oth n μ μ2, ?_, ?_⟩
      · (try simp only [fAsg, fPar, fPar2, fPar3, fIfS, fRet, fRetN, fDrop, fNil, fBreak, fCont, fAugN, fAugF, fApp, fRaise, mvL, moved, eVar, eVal, eOp2, eOp1, eTup, eLst, eNew, eIf, eAnd2, eOr2, eNot1, eFrz, asD, asB, eFld, eCall, eMake, eMeth, eSl, oNone, oSome, aNil, aCons, lNil, lCons, gNm, gFd, gIx, gTp, gsNil, gsCons, tTru, tBool, tAnd2, tOr2, tNot1, tYesD, addM_i, addM_s, addM_t, addM_oo, addM_bo, addM_ob, addM_lo, addM_ol, addM_ll, subM_i, mulM_i, mulM_o, fdivM_i, modM_i, intAddM_i, cmpM_i, min2M_i, max2M_i, negM_i, absM_i, toIntM_i, isnM_any, isN, eqM_i, eqM_b, eqM_s, eqM_t, ixM_t, ixM_o, ixM_l, ixM_k, ixM_r, ixM_b, truM_b, truM_i, truM_n, truM_t, truM_o, lenM, sumM, tupM, listM, slM, lget, lgetR, lput, iRng1D, iRng2D, iSeq, itOf, List.map_cons, List.map_nil, List.replicate_zero, List.replicate_succ, List.cons_append, List.nil_append, List.append_nil, List.getElem?_cons_succ, List.getElem?_cons_zero, List.set_cons_zero, List.set_cons_succ, List.length_cons, List.length_nil, Nat.reduceAdd, Nat.reduceSub, Nat.reduceLT, Nat.reduceLeDiff, Nat.sub_self, decide_eq_true_eq, sz0, sz1, sz2, sz3, sz4, sz5, sz6, sz7, sz8, ok_int, ok_bl, ok_non, ok_tup, ok_lst, eqb_int, eqb_bl, at0, at1, at2, at3, at4, at5, beq_iff_eq, ite_true, ite_false, Bool.false_eq_true, if_true, if_false, true_and, and_true, false_and, Bool.not_true, Bool.not_false])
        by_cases pp : 0 < part left t
        · rw [if_pos pp]
          refine fCons.go ?_
          (try simp only [fAsg, fPar, fPar2, fPar3, fIfS, fRet, fRetN, fDrop, fNil, fBreak, fCont, fAugN, fAugF, fApp, fRaise, mvL, moved, eVar, eVal, eOp2, eOp1, eTup, eLst, eNew, eIf, eAnd2, eOr2, eNot1, eFrz, asD, asB, eFld, eCall, eMake, eMeth, eSl, oNone, oSome, aNil, aCons, lNil, lCons, gNm, gFd, gIx, gTp, gsNil, gsCons, tTru, tBool, tAnd2, tOr2, tNot1, tYesD, addM_i, addM_s, addM_t, addM_oo, addM_bo, addM_ob, addM_lo, addM_ol, addM_ll, subM_i, mulM_i, mulM_o, fdivM_i, modM_i, intAddM_i, cmpM_i, min2M_i, max2M_i, negM_i, absM_i, toIntM_i, isnM_any, isN, eqM_i, eqM_b, eqM_s, eqM_t, ixM_t, ixM_o, ixM_l, ixM_k, ixM_r, ixM_b, truM_b, truM_i, truM_n, truM_t, truM_o, lenM, sumM, tupM, listM, slM, lget, lgetR, lput, iRng1D, iRng2D, iSeq, itOf, List.map_cons, List.map_nil, List.replicate_zero, List.replicate_succ, List.cons_append, List.nil_append, List.append_nil, List.getElem?_cons_succ, List.getElem?_cons_zero, List.set_cons_zero, List.set_cons_succ, List.length_cons, List.length_nil, Nat.reduceAdd, Nat.reduceSub, Nat.reduceLT, Nat.reduceLeDiff, Nat.sub_self, decide_eq_true_eq, sz0, sz1, sz2, sz3, sz4, sz5, sz6, sz7, sz8, ok_int, ok_bl, ok_non, ok_tup, ok_lst, eqb_int, eqb_bl, at0, at1, at2, at3, at4, at5, beq_iff_eq, ite_true, ite_false, Bool.false_eq_true, if_true, if_false, true_and, and_true, false_and, Bool.not_true, Bool.not_false, List.length_map, Option.isSome_some])
          refine ⟨Nat.lt_of_le_of_lt p1 (Nat.lt_of_lt_of_le (show i < 1000 by omega) (by decide)), ?_⟩
          (try simp only [fAsg, fPar, fPar2, fPar3, fIfS, fRet, fRetN, fDrop, fNil, fBreak, fCont, fAugN, fAugF, fApp, fRaise, mvL, moved, eVar, eVal, eOp2, eOp1, eTup, eLst, eNew, eIf, eAnd2, eOr2, eNot1, eFrz, asD, asB, eFld, eCall, eMake, eMeth, eSl, oNone, oSome, aNil, aCons, lNil, lCons, gNm, gFd, gIx, gTp, gsNil, gsCons, tTru, tBool, tAnd2, tOr2, tNot1, tYesD, addM_i, addM_s, addM_t, addM_oo, addM_bo, addM_ob, addM_lo, addM_ol, addM_ll, subM_i, mulM_i, mulM_o, fdivM_i, modM_i, intAddM_i, cmpM_i, min2M_i, max2M_i, negM_i, absM_i, toIntM_i, isnM_any, isN, eqM_i, eqM_b, eqM_s, eqM_t, ixM_t, ixM_o, ixM_l, ixM_k, ixM_r, ixM_b, truM_b, truM_i, truM_n, truM_t, truM_o, lenM, sumM, tupM, listM, slM, lget, lgetR, lput, iRng1D, iRng2D, iSeq, itOf, List.map_cons, List.map_nil, List.replicate_zero, List.replicate_succ, List.cons_append, List.nil_append, List.append_nil, List.getElem?_cons_succ, List.getElem?_cons_zero, List.set_cons_zero, List.set_cons_succ, List.length_cons, List.length_nil, Nat.reduceAdd, Nat.reduceSub, Nat.reduceLT, Nat.reduceLeDiff, Nat.sub_self, decide_eq_true_eq, sz0, sz1, sz2, sz3, sz4, sz5, sz6, sz7, sz8, ok_int, ok_bl, ok_non, ok_tup, ok_lst, eqb_int, eqb_bl, at0, at1, at2, at3, at4, at5, beq_iff_eq, ite_true, ite_false, Bool.false_eq_true, if_true, if_false, true_and, and_true, false_and, Bool.not_true, Bool.not_false, hm', o_Haste, lk_Haste__line, pi_Haste__line, pt_Haste__line, fk_Haste__line T, lk_Haste__now, pi_Haste__now, pt_Haste__now, fk_Haste__now T, lk_Haste__many, pi_Haste__many, pt_Haste__many, fk_Haste__many T, lk_Haste__things, pi_Haste__things, pt_Haste__things, fk_Haste__things T, lk_Haste__late, pi_Haste__late, pt_Haste__late, fk_Haste__late T, lm_Haste_now, tb_Haste_now, lm_Haste_put, tb_Haste_put, lm_Haste_waiting, tb_Haste_waiting, lm_Haste_late, tb_Haste_late, lm_Haste_overdue, tb_Haste_overdue, lm_Haste_tick, tb_Haste_tick])
          have fe : f.map nD ++ [D.tup [.int t.2.1, .int (part left t)]] = (f ++ [(t.1, t.2.1, part left t)]).map nD := by simp [nD]
          have le : lateOf nw [(t.1, t.2.1, part left t)] = if t.1 < nw then part left t else 0 := by simp [lateOf]
          by_cases due : t.1 < nw
          · rw [if_pos due] at le ⊢
            (try simp only [fAsg, fPar, fPar2, fPar3, fIfS, fRet, fRetN, fDrop, fNil, fBreak, fCont, fAugN, fAugF, fApp, fRaise, mvL, moved, eVar, eVal, eOp2, eOp1, eTup, eLst, eNew, eIf, eAnd2, eOr2, eNot1, eFrz, asD, asB, eFld, eCall, eMake, eMeth, eSl, oNone, oSome, aNil, aCons, lNil, lCons, gNm, gFd, gIx, gTp, gsNil, gsCons, tTru, tBool, tAnd2, tOr2, tNot1, tYesD, addM_i, addM_s, addM_t, addM_oo, addM_bo, addM_ob, addM_lo, addM_ol, addM_ll, subM_i, mulM_i, mulM_o, fdivM_i, modM_i, intAddM_i, cmpM_i, min2M_i, max2M_i, negM_i, absM_i, toIntM_i, isnM_any, isN, eqM_i, eqM_b, eqM_s, eqM_t, ixM_t, ixM_o, ixM_l, ixM_k, ixM_r, ixM_b, truM_b, truM_i, truM_n, truM_t, truM_o, lenM, sumM, tupM, listM, slM, lget, lgetR, lput, iRng1D, iRng2D, iSeq, itOf, List.map_cons, List.map_nil, List.replicate_zero, List.replicate_succ, List.cons_append, List.nil_append, List.append_nil, List.getElem?_cons_succ, List.getElem?_cons_zero, List.set_cons_zero, List.set_cons_succ, List.length_cons, List.length_nil, Nat.reduceAdd, Nat.reduceSub, Nat.reduceLT, Nat.reduceLeDiff, Nat.sub_self, decide_eq_true_eq, sz0, sz1, sz2, sz3, sz4, sz5, sz6, sz7, sz8, ok_int, ok_bl, ok_non, ok_tup, ok_lst, eqb_int, eqb_bl, at0, at1, at2, at3, at4, at5, beq_iff_eq, ite_true, ite_false, Bool.false_eq_true, if_true, if_false, true_and, and_true, false_and, Bool.not_true, Bool.not_false, hm', o_Haste, lk_Haste__line, pi_Haste__line, pt_Haste__line, fk_Haste__line T, lk_Haste__now, pi_Haste__now, pt_Haste__now, fk_Haste__now T, lk_Haste__many, pi_Haste__many, pt_Haste__many, fk_Haste__many T, lk_Haste__things, pi_Haste__things, pt_Haste__things, fk_Haste__things T, lk_Haste__late, pi_Haste__late, pt_Haste__late, fk_Haste__late T, lm_Haste_now, tb_Haste_now, lm_Haste_put, tb_Haste_put, lm_Haste_waiting, tb_Haste_waiting, lm_Haste_late, tb_Haste_late, lm_Haste_overdue, tb_Haste_overdue, lm_Haste_tick, tb_Haste_tick])
            refine ⟨ad1, _, ?_, rfl, ?_, o.trans (Oth.set n μ' _)⟩
            · rw [if_pos pp, fe]
            · rw [List.getElem?_set_self hl, if_pos pp, le]
          · rw [if_neg due] at le ⊢
            (try simp only [fAsg, fPar, fPar2, fPar3, fIfS, fRet, fRetN, fDrop, fNil, fBreak, fCont, fAugN, fAugF, fApp, fRaise, mvL, moved, eVar, eVal, eOp2, eOp1, eTup, eLst, eNew, eIf, eAnd2, eOr2, eNot1, eFrz, asD, asB, eFld, eCall, eMake, eMeth, eSl, oNone, oSome, aNil, aCons, lNil, lCons, gNm, gFd, gIx, gTp, gsNil, gsCons, tTru, tBool, tAnd2, tOr2, tNot1, tYesD, addM_i, addM_s, addM_t, addM_oo, addM_bo, addM_ob, addM_lo, addM_ol, addM_ll, subM_i, mulM_i, mulM_o, fdivM_i, modM_i, intAddM_i, cmpM_i, min2M_i, max2M_i, negM_i, absM_i, toIntM_i, isnM_any, isN, eqM_i, eqM_b, eqM_s, eqM_t, ixM_t, ixM_o, ixM_l, ixM_k, ixM_r, ixM_b, truM_b, truM_i, truM_n, truM_t, truM_o, lenM, sumM, tupM, listM, slM, lget, lgetR, lput, iRng1D, iRng2D, iSeq, itOf, List.map_cons, List.map_nil, List.replicate_zero, List.replicate_succ, List.cons_append, List.nil_append, List.append_nil, List.getElem?_cons_succ, List.getElem?_cons_zero, List.set_cons_zero, List.set_cons_succ, List.length_cons, List.length_nil, Nat.reduceAdd, Nat.reduceSub, Nat.reduceLT, Nat.reduceLeDiff, Nat.sub_self, decide_eq_true_eq, sz0, sz1, sz2, sz3, sz4, sz5, sz6, sz7, sz8, ok_int, ok_bl, ok_non, ok_tup, ok_lst, eqb_int, eqb_bl, at0, at1, at2, at3, at4, at5, beq_iff_eq, ite_true, ite_false, Bool.false_eq_true, if_true, if_false, true_and, and_true, false_and, Bool.not_true, Bool.not_false, hm', o_Haste, lk_Haste__line, pi_Haste__line, pt_Haste__line, fk_Haste__line T, lk_Haste__now, pi_Haste__now, pt_Haste__now, fk_Haste__now T, lk_Haste__many, pi_Haste__many, pt_Haste__many, fk_Haste__many T, lk_Haste__things, pi_Haste__things, pt_Haste__things, fk_Haste__things T, lk_Haste__late, pi_Haste__late, pt_Haste__late, fk_Haste__late T, lm_Haste_now, tb_Haste_now, lm_Haste_put, tb_Haste_put, lm_Haste_waiting, tb_Haste_waiting, lm_Haste_late, tb_Haste_late, lm_Haste_overdue, tb_Haste_overdue, lm_Haste_tick, tb_Haste_tick])
            refine ⟨ad1, _, ?_, rfl, ?_, o.trans (Oth.set n μ' _)⟩
            · rw [if_pos pp, fe]
            · rw [List.getElem?_set_self hl, if_pos pp, le]
        · rw [if_neg pp]
          refine ⟨ad1, _, ?_, rfl, ?_, o⟩
          · rw [if_neg pp, List.append_nil]
          · rw [if_neg pp, hm']
            simp [lateOf]
      · rintro δ2 μ2 ⟨ad1, lt2, rfl, el, hm2, o2⟩
        refine fCons.go ?_
        (try simp only [fAsg, fPar, fPar2, fPar3, fIfS, fRet, fRetN, fDrop, fNil, fBreak, fCont, fAugN, fAugF, fApp, fRaise, mvL, moved, eVar, eVal, eOp2, eOp1, eTup, eLst, eNew, eIf, eAnd2, eOr2, eNot1, eFrz, asD, asB, eFld, eCall, eMake, eMeth, eSl, oNone, oSome, aNil, aCons, lNil, lCons, gNm, gFd, gIx, gTp, gsNil, gsCons, tTru, tBool, tAnd2, tOr2, tNot1, tYesD, addM_i, addM_s, addM_t, addM_oo, addM_bo, addM_ob, addM_lo, addM_ol, addM_ll, subM_i, mulM_i, mulM_o, fdivM_i, modM_i, intAddM_i, cmpM_i, min2M_i, max2M_i, negM_i, absM_i, toIntM_i, isnM_any, isN, eqM_i, eqM_b, eqM_s, eqM_t, ixM_t, ixM_o, ixM_l, ixM_k, ixM_r, ixM_b, truM_b, truM_i, truM_n, truM_t, truM_o, lenM, sumM, tupM, listM, slM, lget, lgetR, lput, iRng1D, iRng2D, iSeq, itOf, List.map_cons, List.map_nil, List.replicate_zero, List.replicate_succ, List.cons_append, List.nil_append, List.append_nil, List.getElem?_cons_succ, List.getElem?_cons_zero, List.set_cons_zero, List.set_cons_succ, List.length_cons, List.length_nil, Nat.reduceAdd, Nat.reduceSub, Nat.reduceLT, Nat.reduceLeDiff, Nat.sub_self, decide_eq_true_eq, sz0, sz1, sz2, sz3, sz4, sz5, sz6, sz7, sz8, ok_int, ok_bl, ok_non, ok_tup, ok_lst, eqb_int, eqb_bl, at0, at1, at2, at3, at4, at5, beq_iff_eq, ite_true, ite_false, Bool.false_eq_true, if_true, if_false, true_and, and_true, false_and, Bool.not_true, Bool.not_false])
        have e1' : (f ++ (if 0 < part left t then [(t.1, t.2.1, part left t)] else [])) ++ fnd (left - part left t) (ts'.drop (i + 1)) = fnd l ts' := by rw [List.append_assoc]; exact e1
        have fl : (f ++ (if 0 < part left t then [(t.1, t.2.1, part left t)] else [])).length ≤ i + 1 := by
          rw [List.length_append]
          split <;> simp <;> omega
        have el' : lt2 + lateOf nw (fnd (left - part left t) (ts'.drop (i + 1))) = lt + lateOf nw (fnd l ts') := by rw [el]; omega
        by_cases more : part left t < t.2.2
        · rw [if_pos more] at e2 ⊢
          (try simp only [fAsg, fPar, fPar2, fPar3, fIfS, fRet, fRetN, fDrop, fNil, fBreak, fCont, fAugN, fAugF, fApp, fRaise, mvL, moved, eVar, eVal, eOp2, eOp1, eTup, eLst, eNew, eIf, eAnd2, eOr2, eNot1, eFrz, asD, asB, eFld, eCall, eMake, eMeth, eSl, oNone, oSome, aNil, aCons, lNil, lCons, gNm, gFd, gIx, gTp, gsNil, gsCons, tTru, tBool, tAnd2, tOr2, tNot1, tYesD, addM_i, addM_s, addM_t, addM_oo, addM_bo, addM_ob, addM_lo, addM_ol, addM_ll, subM_i, mulM_i, mulM_o, fdivM_i, modM_i, intAddM_i, cmpM_i, min2M_i, max2M_i, negM_i, absM_i, toIntM_i, isnM_any, isN, eqM_i, eqM_b, eqM_s, eqM_t, ixM_t, ixM_o, ixM_l, ixM_k, ixM_r, ixM_b, truM_b, truM_i, truM_n, truM_t, truM_o, lenM, sumM, tupM, listM, slM, lget, lgetR, lput, iRng1D, iRng2D, iSeq, itOf, List.map_cons, List.map_nil, List.replicate_zero, List.replicate_succ, List.cons_append, List.nil_append, List.append_nil, List.getElem?_cons_succ, List.getElem?_cons_zero, List.set_cons_zero, List.set_cons_succ, List.length_cons, List.length_nil, Nat.reduceAdd, Nat.reduceSub, Nat.reduceLT, Nat.reduceLeDiff, Nat.sub_self, decide_eq_true_eq, sz0, sz1, sz2, sz3, sz4, sz5, sz6, sz7, sz8, ok_int, ok_bl, ok_non, ok_tup, ok_lst, eqb_int, eqb_bl, at0, at1, at2, at3, at4, at5, beq_iff_eq, ite_true, ite_false, Bool.false_eq_true, if_true, if_false, true_and, and_true, false_and, Bool.not_true, Bool.not_false, List.length_map, Option.isSome_some])
          refine ⟨Nat.lt_of_le_of_lt p2 (Nat.lt_of_lt_of_le (show i < 1000 by omega) (by decide)), ?_⟩
          refine ⟨left - part left t, _, k ++ [(t.1, t.2.1, t.2.2 - part left t)], lt2, ad1, ad2, iv t.1, iv t.2.1, iv t.2.2, iv (part left t), ?_, by omega, fl, by simp; omega, e1', by rw [List.append_assoc]; exact e2, el', hm2, o2⟩
          simp [tD, rowD, thL]
        · rw [if_neg more] at e2 ⊢
          exact ⟨left - part left t, _, k, lt2, ad1, ad2, _, _, _, _, rfl, by omega, fl, by omega, e1', by simpa using e2, el', hm2, o2⟩
  · rw [List.length_map] at q
    exact hN ts' δ' μ' pm srt q
theorem tick_ (T : Tx K mg a) {n : Nat} {l nw m lt : Int} {adT : Addr} {ts : List Th} (hts : ts.length < 1000) (hp : Pos ts) (hl0 : 0 ≤ l) (hm : μ[n]? = some (hs a l nw m adT ts lt))
    (hC : ∀ ts' μ' ad, ts'.Perm ts → ts'.Pairwise (fun x y => lexI (thL y) (thL x) = false) → μ'[n]? = some (hs a l (nw + 1) m ad (kpt l ts') (lt + lateOf nw (fnd l ts'))) → Oth n μ μ' → C (.val (.tup ((fnd l ts').map nD))) μ') : d_Haste_tick K a [.ref n] μ C E := by
  refine ⟨rfl, fCons.go ?_⟩
  (try simp only [fAsg, fPar, fPar2, fPar3, fIfS, fRet, fRetN, fDrop, fNil, fBreak, fCont, fAugN, fAugF, fApp, fRaise, mvL, moved, eVar, eVal, eOp2, eOp1, eTup, eLst, eNew, eIf, eAnd2, eOr2, eNot1, eFrz, asD, asB, eFld, eCall, eMake, eMeth, eSl, oNone, oSome, aNil, aCons, lNil, lCons, gNm, gFd, gIx, gTp, gsNil, gsCons, tTru, tBool, tAnd2, tOr2, tNot1, tYesD, addM_i, addM_s, addM_t, addM_oo, addM_bo, addM_ob, addM_lo, addM_ol, addM_ll, subM_i, mulM_i, mulM_o, fdivM_i, modM_i, intAddM_i, cmpM_i, min2M_i, max2M_i, negM_i, absM_i, toIntM_i, isnM_any, isN, eqM_i, eqM_b, eqM_s, eqM_t, ixM_t, ixM_o, ixM_l, ixM_k, ixM_r, ixM_b, truM_b, truM_i, truM_n, truM_t, truM_o, lenM, sumM, tupM, listM, slM, lget, lgetR, lput, iRng1D, iRng2D, iSeq, itOf, List.map_cons, List.map_nil, List.replicate_zero, List.replicate_succ, List.cons_append, List.nil_append, List.append_nil, List.getElem?_cons_succ, List.getElem?_cons_zero, List.set_cons_zero, List.set_cons_succ, List.length_cons, List.length_nil, Nat.reduceAdd, Nat.reduceSub, Nat.reduceLT, Nat.reduceLeDiff, Nat.sub_self, decide_eq_true_eq, sz0, sz1, sz2, sz3, sz4, sz5, sz6, sz7, sz8, ok_int, ok_bl, ok_non, ok_tup, ok_lst, eqb_int, eqb_bl, at0, at1, at2, at3, at4, at5, beq_iff_eq, ite_true, ite_false, Bool.false_eq_true, if_true, if_false, true_and, and_true, false_and, Bool.not_true, Bool.not_false, hm, o_Haste, lk_Haste__line, pi_Haste__line, pt_Haste__line, fk_Haste__line T, lk_Haste__now, pi_Haste__now, pt_Haste__now, fk_Haste__now T, lk_Haste__many, pi_Haste__many, pt_Haste__many, fk_Haste__many T, lk_Haste__things, pi_Haste__things, pt_Haste__things, fk_Haste__things T, lk_Haste__late, pi_Haste__late, pt_Haste__late, fk_Haste__late T, lm_Haste_now, tb_Haste_now, lm_Haste_put, tb_Haste_put, lm_Haste_waiting, tb_Haste_waiting, lm_Haste_late, tb_Haste_late, lm_Haste_overdue, tb_Haste_overdue, lm_Haste_tick, tb_Haste_tick])
  intro ad1 ad2
  refine fCons.go (tick_loop T hts hp hl0 ⟨ad1, ad2, _, _, _, _, rfl⟩ hm fun ts' δ' μ' pm srt st => ?_)
  obtain ⟨left, f, k, lt', ad1, ad2, y4, y5, y6, y7, rfl, p0, p1, p2, e1, e2, e3, hm', o⟩ := st
  rw [List.drop_length] at e1 e2 e3
  simp only [fnd, kpt, List.append_nil] at e1 e2 e3
  have e3' : lt' = lt + lateOf nw (fnd l ts') := by simpa [lateOf] using e3
  subst e1 e2 e3'
  have hl : n < μ'.length := (List.getElem?_eq_some_iff.mp hm').1
  refine fCons.go ?_
  (try simp only [fAsg, fPar, fPar2, fPar3, fIfS, fRet, fRetN, fDrop, fNil, fBreak, fCont, fAugN, fAugF, fApp, fRaise, mvL, moved, eVar, eVal, eOp2, eOp1, eTup, eLst, eNew, eIf, eAnd2, eOr2, eNot1, eFrz, asD, asB, eFld, eCall, eMake, eMeth, eSl, oNone, oSome, aNil, aCons, lNil, lCons, gNm, gFd, gIx, gTp, gsNil, gsCons, tTru, tBool, tAnd2, tOr2, tNot1, tYesD, addM_i, addM_s, addM_t, addM_oo, addM_bo, addM_ob, addM_lo, addM_ol, addM_ll, subM_i, mulM_i, mulM_o, fdivM_i, modM_i, intAddM_i, cmpM_i, min2M_i, max2M_i, negM_i, absM_i, toIntM_i, isnM_any, isN, eqM_i, eqM_b, eqM_s, eqM_t, ixM_t, ixM_o, ixM_l, ixM_k, ixM_r, ixM_b, truM_b, truM_i, truM_n, truM_t, truM_o, lenM, sumM, tupM, listM, slM, lget, lgetR, lput, iRng1D, iRng2D, iSeq, itOf, List.map_cons, List.map_nil, List.replicate_zero, List.replicate_succ, List.cons_append, List.nil_append, List.append_nil, List.getElem?_cons_succ, List.getElem?_cons_zero, List.set_cons_zero, List.set_cons_succ, List.length_cons, List.length_nil, Nat.reduceAdd, Nat.reduceSub, Nat.reduceLT, Nat.reduceLeDiff, Nat.sub_self, decide_eq_true_eq, sz0, sz1, sz2, sz3, sz4, sz5, sz6, sz7, sz8, ok_int, ok_bl, ok_non, ok_tup, ok_lst, eqb_int, eqb_bl, at0, at1, at2, at3, at4, at5, beq_iff_eq, ite_true, ite_false, Bool.false_eq_true, if_true, if_false, true_and, and_true, false_and, Bool.not_true, Bool.not_false, hm', o_Haste, lk_Haste__line, pi_Haste__line, pt_Haste__line, fk_Haste__line T, lk_Haste__now, pi_Haste__now, pt_Haste__now, fk_Haste__now T, lk_Haste__many, pi_Haste__many, pt_Haste__many, fk_Haste__many T, lk_Haste__things, pi_Haste__things, pt_Haste__things, fk_Haste__things T, lk_Haste__late, pi_Haste__late, pt_Haste__late, fk_Haste__late T, lm_Haste_now, tb_Haste_now, lm_Haste_put, tb_Haste_put, lm_Haste_waiting, tb_Haste_waiting, lm_Haste_late, tb_Haste_late, lm_Haste_overdue, tb_Haste_overdue, lm_Haste_tick, tb_Haste_tick])
  refine fCons.go ?_
  (try simp only [fAsg, fPar, fPar2, fPar3, fIfS, fRet, fRetN, fDrop, fNil, fBreak, fCont, fAugN, fAugF, fApp, fRaise, mvL, moved, eVar, eVal, eOp2, eOp1, eTup, eLst, eNew, eIf, eAnd2, eOr2, eNot1, eFrz, asD, asB, eFld, eCall, eMake, eMeth, eSl, oNone, oSome, aNil, aCons, lNil, lCons, gNm, gFd, gIx, gTp, gsNil, gsCons, tTru, tBool, tAnd2, tOr2, tNot1, tYesD, addM_i, addM_s, addM_t, addM_oo, addM_bo, addM_ob, addM_lo, addM_ol, addM_ll, subM_i, mulM_i, mulM_o, fdivM_i, modM_i, intAddM_i, cmpM_i, min2M_i, max2M_i, negM_i, absM_i, toIntM_i, isnM_any, isN, eqM_i, eqM_b, eqM_s, eqM_t, ixM_t, ixM_o, ixM_l, ixM_k, ixM_r, ixM_b, truM_b, truM_i, truM_n, truM_t, truM_o, lenM, sumM, tupM, listM, slM, lget, lgetR, lput, iRng1D, iRng2D, iSeq, itOf, List.map_cons, List.map_nil, List.replicate_zero, List.replicate_succ, List.cons_append, List.nil_append, List.append_nil, List.getElem?_cons_succ, List.getElem?_cons_zero, List.set_cons_zero, List.set_cons_succ, List.length_cons, List.length_nil, Nat.reduceAdd, Nat.reduceSub, Nat.reduceLT, Nat.reduceLeDiff, Nat.sub_self, decide_eq_true_eq, sz0, sz1, sz2, sz3, sz4, sz5, sz6, sz7, sz8, ok_int, ok_bl, ok_non, ok_tup, ok_lst, eqb_int, eqb_bl, at0, at1, at2, at3, at4, at5, beq_iff_eq, ite_true, ite_false, Bool.false_eq_true, if_true, if_false, true_and, and_true, false_and, Bool.not_true, Bool.not_false, o_Haste, lk_Haste__line, pi_Haste__line, pt_Haste__line, fk_Haste__line T, lk_Haste__now, pi_Haste__now, pt_Haste__now, fk_Haste__now T, lk_Haste__many, pi_Haste__many, pt_Haste__many, fk_Haste__many T, lk_Haste__things, pi_Haste__things, pt_Haste__things, fk_Haste__things T, lk_Haste__late, pi_Haste__late, pt_Haste__late, fk_Haste__late T, lm_Haste_now, tb_Haste_now, lm_Haste_put, tb_Haste_put, lm_Haste_waiting, tb_Haste_waiting, lm_Haste_late, tb_Haste_late, lm_Haste_overdue, tb_Haste_overdue, lm_Haste_tick, tb_Haste_tick, List.getElem?_set_self hl, List.set_set])
  exact hC ts' _ ad2 pm srt (List.getElem?_set_self hl) (o.trans (Oth.set n μ' _))
/-! ### the law -/
abbrev Sl17 (zs : List Int) (y2 y3 y4 y5 y6 y7 y8 y9 y10 y11 y12 y13 y14 y15 y16 : Option P) : Sl := [some (.val (.kls (zs.map D.int))), some (.val (.ref 0)), y2, y3, y4, y5, y6, y7, y8, y9, y10, y11, y12, y13, y14, y15, y16]
theorem expd_len {many : Int} : ∀ {ts : List Th}, (∀ t ∈ ts, Ok many t) → (expd ts).length ≤ 14 * ts.length
  | [], _ => Nat.le_refl _
  | t :: r, h => by
    have h1 := expd_len fun u hu => h u (List.mem_cons_of_mem _ hu)
    obtain ⟨_, _, _, _, a5, a6⟩ := h t List.mem_cons_self
    rw [expd_cons, List.length_append, List.length_cons]
    have : (oct t).length = t.2.2.toNat := by simp [oct]
    omega
theorem ok_pos {many : Int} {ts : List Th} (h : ∀ t ∈ ts, Ok many t) : Pos ts := fun t m => (h t m).2.2.2.2.1
/-- a turn's state at the i-th tick, j puts of it done -/
def Q1 (a : Ad) (zs : List Int) (l : Int) (n : Nat) (i j : Nat) (y9 : Option P) (δ : Sl) (μ : Mu) : Prop := ∃ y2 y10 y11 y12 y13 y14 y15 y16 ad adT, ∃ (ts : List Th) (oc : List Oc) (late many whole : Int), δ = Sl17 zs y2 (iv l) (some (.val (.ref n))) (some (.own ad (oc.map oD))) (iv late) (iv many) (iv whole) y9 y10 y11 y12 y13 y14 y15 y16 ∧
  Draw μ 0 ∧ μ[n]? = some (hs a l i many adT ts late) ∧ oc.Perm (expd ts) ∧ (∀ t ∈ ts, Ok many t) ∧ (ts.map fun t => t.2.1).Nodup ∧ ts.length ≤ 2 * i + j ∧ 0 ≤ many ∧ many ≤ 2 * i + j ∧ 0 ≤ late ∧ late ≤ 1000 * i ∧ whole ≤ l * i
theorem take__ {n : Nat} {many : Int} (d : Draw μ n) (h1 : 0 < many) (h2 : many < 2 ^ 64) (hC : ∀ v μ', 0 ≤ v → v < many → Draw μ' n → Oth n μ μ' → C (.val (.int v)) μ') : d_law_take K a [.ref n, .int many] μ C E := take_ d h1 h2 hC
theorem puts (T : Tx K mg a) {zs : List Int} {l : Int} {n i : Nat} {D' : FD} {δ : Sl} (hi : i ≤ 25) (hn : n ≠ 0) (st : Q1 a zs l n i 0 (iv i) δ μ) (hN : ∀ δ' μ' j, j ≤ 2 → Q1 a zs l n i j (iv i) δ' μ' → D'.nx δ' μ') : L_law_1 K a D' δ μ := by
  obtain ⟨y2, y10, y11, y12, y13, y14, y15, y16, ad, adT, ts, oc, late, many, whole, rfl, hd, em, pm, ok, nd, len, m0, m1, t0, t1, wh⟩ := st
  unfold L_law_1
  rw [fFor_eq]
  (try simp only [fAsg, fPar, fPar2, fPar3, fIfS, fRet, fRetN, fDrop, fNil, fBreak, fCont, fAugN, fAugF, fApp, fRaise, mvL, moved, eVar, eVal, eOp2, eOp1, eTup, eLst, eNew, eIf, eAnd2, eOr2, eNot1, eFrz, asD, asB, eFld, eCall, eMake, eMeth, eSl, oNone, oSome, aNil, aCons, lNil, lCons, gNm, gFd, gIx, gTp, gsNil, gsCons, tTru, tBool, tAnd2, tOr2, tNot1, tYesD, addM_i, addM_s, addM_t, addM_oo, addM_bo, addM_ob, addM_lo, addM_ol, addM_ll, subM_i, mulM_i, mulM_o, fdivM_i, modM_i, intAddM_i, cmpM_i, min2M_i, max2M_i, negM_i, absM_i, toIntM_i, isnM_any, isN, eqM_i, eqM_b, eqM_s, eqM_t, ixM_t, ixM_o, ixM_l, ixM_k, ixM_r, ixM_b, truM_b, truM_i, truM_n, truM_t, truM_o, lenM, sumM, tupM, listM, slM, lget, lgetR, lput, iRng1D, iRng2D, iSeq, itOf, List.map_cons, List.map_nil, List.replicate_zero, List.replicate_succ, List.cons_append, List.nil_append, List.append_nil, List.getElem?_cons_succ, List.getElem?_cons_zero, List.set_cons_zero, List.set_cons_succ, List.length_cons, List.length_nil, Nat.reduceAdd, Nat.reduceSub, Nat.reduceLT, Nat.reduceLeDiff, Nat.sub_self, decide_eq_true_eq, sz0, sz1, sz2, sz3, sz4, sz5, sz6, sz7, sz8, ok_int, ok_bl, ok_non, ok_tup, ok_lst, eqb_int, eqb_bl, at0, at1, at2, at3, at4, at5, beq_iff_eq, ite_true, ite_false, Bool.false_eq_true, if_true, if_false, true_and, and_true, false_and, Bool.not_true, Bool.not_false, Sl17, iv])
  refine take__ hd (by decide) (by decide) fun v μ' v1 v2 hd' o => ?_
  refine ⟨⟨by omega, by omega⟩, ?_⟩
  refine loop_rng (fun j => Q1 a zs l n i j (iv i)) ⟨y2, y10, y11, y12, y13, y14, y15, y16, ad, adT, ts, oc, late, many, whole, rfl, hd', o.at hn em, pm, ok, nd, len, m0, m1, t0, t1, wh⟩ ?_ fun δ' μ' q => hN δ' μ' _ (by omega) q
  clear hd em pm ok nd len m0 m1 t0 t1 wh hd' o
  rintro j δ' μ hj ⟨y2, y10, y11, y12, y13, y14, y15, y16, ad, adT, ts, oc, late, many, whole, rfl, hd, em, pm, ok, nd, len, m0, m1, t0, t1, wh⟩
  (try simp only [fAsg, fPar, fPar2, fPar3, fIfS, fRet, fRetN, fDrop, fNil, fBreak, fCont, fAugN, fAugF, fApp, fRaise, mvL, moved, eVar, eVal, eOp2, eOp1, eTup, eLst, eNew, eIf, eAnd2, eOr2, eNot1, eFrz, asD, asB, eFld, eCall, eMake, eMeth, eSl, oNone, oSome, aNil, aCons, lNil, lCons, gNm, gFd, gIx, gTp, gsNil, gsCons, tTru, tBool, tAnd2, tOr2, tNot1, tYesD, addM_i, addM_s, addM_t, addM_oo, addM_bo, addM_ob, addM_lo, addM_ol, addM_ll, subM_i, mulM_i, mulM_o, fdivM_i, modM_i, intAddM_i, cmpM_i, min2M_i, max2M_i, negM_i, absM_i, toIntM_i, isnM_any, isN, eqM_i, eqM_b, eqM_s, eqM_t, ixM_t, ixM_o, ixM_l, ixM_k, ixM_r, ixM_b, truM_b, truM_i, truM_n, truM_t, truM_o, lenM, sumM, tupM, listM, slM, lget, lgetR, lput, iRng1D, iRng2D, iSeq, itOf, List.map_cons, List.map_nil, List.replicate_zero, List.replicate_succ, List.cons_append, List.nil_append, List.append_nil, List.getElem?_cons_succ, List.getElem?_cons_zero, List.set_cons_zero, List.set_cons_succ, List.length_cons, List.length_nil, Nat.reduceAdd, Nat.reduceSub, Nat.reduceLT, Nat.reduceLeDiff, Nat.sub_self, decide_eq_true_eq, sz0, sz1, sz2, sz3, sz4, sz5, sz6, sz7, sz8, ok_int, ok_bl, ok_non, ok_tup, ok_lst, eqb_int, eqb_bl, at0, at1, at2, at3, at4, at5, beq_iff_eq, ite_true, ite_false, Bool.false_eq_true, if_true, if_false, true_and, and_true, false_and, Bool.not_true, Bool.not_false, Sl17, iv])
  refine fCons.go ?_
  (try simp only [fAsg, fPar, fPar2, fPar3, fIfS, fRet, fRetN, fDrop, fNil, fBreak, fCont, fAugN, fAugF, fApp, fRaise, mvL, moved, eVar, eVal, eOp2, eOp1, eTup, eLst, eNew, eIf, eAnd2, eOr2, eNot1, eFrz, asD, asB, eFld, eCall, eMake, eMeth, eSl, oNone, oSome, aNil, aCons, lNil, lCons, gNm, gFd, gIx, gTp, gsNil, gsCons, tTru, tBool, tAnd2, tOr2, tNot1, tYesD, addM_i, addM_s, addM_t, addM_oo, addM_bo, addM_ob, addM_lo, addM_ol, addM_ll, subM_i, mulM_i, mulM_o, fdivM_i, modM_i, intAddM_i, cmpM_i, min2M_i, max2M_i, negM_i, absM_i, toIntM_i, isnM_any, isN, eqM_i, eqM_b, eqM_s, eqM_t, ixM_t, ixM_o, ixM_l, ixM_k, ixM_r, ixM_b, truM_b, truM_i, truM_n, truM_t, truM_o, lenM, sumM, tupM, listM, slM, lget, lgetR, lput, iRng1D, iRng2D, iSeq, itOf, List.map_cons, List.map_nil, List.replicate_zero, List.replicate_succ, List.cons_append, List.nil_append, List.append_nil, List.getElem?_cons_succ, List.getElem?_cons_zero, List.set_cons_zero, List.set_cons_succ, List.length_cons, List.length_nil, Nat.reduceAdd, Nat.reduceSub, Nat.reduceLT, Nat.reduceLeDiff, Nat.sub_self, decide_eq_true_eq, sz0, sz1, sz2, sz3, sz4, sz5, sz6, sz7, sz8, ok_int, ok_bl, ok_non, ok_tup, ok_lst, eqb_int, eqb_bl, at0, at1, at2, at3, at4, at5, beq_iff_eq, ite_true, ite_false, Bool.false_eq_true, if_true, if_false, true_and, and_true, false_and, Bool.not_true, Bool.not_false])
  refine take__ hd (by decide) (by decide) fun sv μ s1 s2 hd o => ?_
  replace em := o.at hn em
  (try simp only [fAsg, fPar, fPar2, fPar3, fIfS, fRet, fRetN, fDrop, fNil, fBreak, fCont, fAugN, fAugF, fApp, fRaise, mvL, moved, eVar, eVal, eOp2, eOp1, eTup, eLst, eNew, eIf, eAnd2, eOr2, eNot1, eFrz, asD, asB, eFld, eCall, eMake, eMeth, eSl, oNone, oSome, aNil, aCons, lNil, lCons, gNm, gFd, gIx, gTp, gsNil, gsCons, tTru, tBool, tAnd2, tOr2, tNot1, tYesD, addM_i, addM_s, addM_t, addM_oo, addM_bo, addM_ob, addM_lo, addM_ol, addM_ll, subM_i, mulM_i, mulM_o, fdivM_i, modM_i, intAddM_i, cmpM_i, min2M_i, max2M_i, negM_i, absM_i, toIntM_i, isnM_any, isN, eqM_i, eqM_b, eqM_s, eqM_t, ixM_t, ixM_o, ixM_l, ixM_k, ixM_r, ixM_b, truM_b, truM_i, truM_n, truM_t, truM_o, lenM, sumM, tupM, listM, slM, lget, lgetR, lput, iRng1D, iRng2D, iSeq, itOf, List.map_cons, List.map_nil, List.replicate_zero, List.replicate_succ, List.cons_append, List.nil_append, List.append_nil, List.getElem?_cons_succ, List.getElem?_cons_zero, List.set_cons_zero, List.set_cons_succ, List.length_cons, List.length_nil, Nat.reduceAdd, Nat.reduceSub, Nat.reduceLT, Nat.reduceLeDiff, Nat.sub_self, decide_eq_true_eq, sz0, sz1, sz2, sz3, sz4, sz5, sz6, sz7, sz8, ok_int, ok_bl, ok_non, ok_tup, ok_lst, eqb_int, eqb_bl, at0, at1, at2, at3, at4, at5, beq_iff_eq, ite_true, ite_false, Bool.false_eq_true, if_true, if_false, true_and, and_true, false_and, Bool.not_true, Bool.not_false])
  refine take__ hd (by decide) (by decide) fun dl μ d1 d2 hd o => ?_
  replace em := o.at hn em
  (try simp only [fAsg, fPar, fPar2, fPar3, fIfS, fRet, fRetN, fDrop, fNil, fBreak, fCont, fAugN, fAugF, fApp, fRaise, mvL, moved, eVar, eVal, eOp2, eOp1, eTup, eLst, eNew, eIf, eAnd2, eOr2, eNot1, eFrz, asD, asB, eFld, eCall, eMake, eMeth, eSl, oNone, oSome, aNil, aCons, lNil, lCons, gNm, gFd, gIx, gTp, gsNil, gsCons, tTru, tBool, tAnd2, tOr2, tNot1, tYesD, addM_i, addM_s, addM_t, addM_oo, addM_bo, addM_ob, addM_lo, addM_ol, addM_ll, subM_i, mulM_i, mulM_o, fdivM_i, modM_i, intAddM_i, cmpM_i, min2M_i, max2M_i, negM_i, absM_i, toIntM_i, isnM_any, isN, eqM_i, eqM_b, eqM_s, eqM_t, ixM_t, ixM_o, ixM_l, ixM_k, ixM_r, ixM_b, truM_b, truM_i, truM_n, truM_t, truM_o, lenM, sumM, tupM, listM, slM, lget, lgetR, lput, iRng1D, iRng2D, iSeq, itOf, List.map_cons, List.map_nil, List.replicate_zero, List.replicate_succ, List.cons_append, List.nil_append, List.append_nil, List.getElem?_cons_succ, List.getElem?_cons_zero, List.set_cons_zero, List.set_cons_succ, List.length_cons, List.length_nil, Nat.reduceAdd, Nat.reduceSub, Nat.reduceLT, Nat.reduceLeDiff, Nat.sub_self, decide_eq_true_eq, sz0, sz1, sz2, sz3, sz4, sz5, sz6, sz7, sz8, ok_int, ok_bl, ok_non, ok_tup, ok_lst, eqb_int, eqb_bl, at0, at1, at2, at3, at4, at5, beq_iff_eq, ite_true, ite_false, Bool.false_eq_true, if_true, if_false, true_and, and_true, false_and, Bool.not_true, Bool.not_false])
  generalize hsz : 1 + sv = size at *
  generalize hdl : 1 + dl = dead at *
  refine fCons.go ?_
  (try simp only [fAsg, fPar, fPar2, fPar3, fIfS, fRet, fRetN, fDrop, fNil, fBreak, fCont, fAugN, fAugF, fApp, fRaise, mvL, moved, eVar, eVal, eOp2, eOp1, eTup, eLst, eNew, eIf, eAnd2, eOr2, eNot1, eFrz, asD, asB, eFld, eCall, eMake, eMeth, eSl, oNone, oSome, aNil, aCons, lNil, lCons, gNm, gFd, gIx, gTp, gsNil, gsCons, tTru, tBool, tAnd2, tOr2, tNot1, tYesD, addM_i, addM_s, addM_t, addM_oo, addM_bo, addM_ob, addM_lo, addM_ol, addM_ll, subM_i, mulM_i, mulM_o, fdivM_i, modM_i, intAddM_i, cmpM_i, min2M_i, max2M_i, negM_i, absM_i, toIntM_i, isnM_any, isN, eqM_i, eqM_b, eqM_s, eqM_t, ixM_t, ixM_o, ixM_l, ixM_k, ixM_r, ixM_b, truM_b, truM_i, truM_n, truM_t, truM_o, lenM, sumM, tupM, listM, slM, lget, lgetR, lput, iRng1D, iRng2D, iSeq, itOf, List.map_cons, List.map_nil, List.replicate_zero, List.replicate_succ, List.cons_append, List.nil_append, List.append_nil, List.getElem?_cons_succ, List.getElem?_cons_zero, List.set_cons_zero, List.set_cons_succ, List.length_cons, List.length_nil, Nat.reduceAdd, Nat.reduceSub, Nat.reduceLT, Nat.reduceLeDiff, Nat.sub_self, decide_eq_true_eq, sz0, sz1, sz2, sz3, sz4, sz5, sz6, sz7, sz8, ok_int, ok_bl, ok_non, ok_tup, ok_lst, eqb_int, eqb_bl, at0, at1, at2, at3, at4, at5, beq_iff_eq, ite_true, ite_false, Bool.false_eq_true, if_true, if_false, true_and, and_true, false_and, Bool.not_true, Bool.not_false, em, o_Haste, lk_Haste__line, pi_Haste__line, pt_Haste__line, fk_Haste__line T, lk_Haste__now, pi_Haste__now, pt_Haste__now, fk_Haste__now T, lk_Haste__many, pi_Haste__many, pt_Haste__many, fk_Haste__many T, lk_Haste__things, pi_Haste__things, pt_Haste__things, fk_Haste__things T, lk_Haste__late, pi_Haste__late, pt_Haste__late, fk_Haste__late T, lm_Haste_now, tb_Haste_now, lm_Haste_put, tb_Haste_put, lm_Haste_waiting, tb_Haste_waiting, lm_Haste_late, tb_Haste_late, lm_Haste_overdue, tb_Haste_overdue, lm_Haste_tick, tb_Haste_tick])
  refine put_ T em (by omega) fun μ em o => ?_
  (try simp only [fAsg, fPar, fPar2, fPar3, fIfS, fRet, fRetN, fDrop, fNil, fBreak, fCont, fAugN, fAugF, fApp, fRaise, mvL, moved, eVar, eVal, eOp2, eOp1, eTup, eLst, eNew, eIf, eAnd2, eOr2, eNot1, eFrz, asD, asB, eFld, eCall, eMake, eMeth, eSl, oNone, oSome, aNil, aCons, lNil, lCons, gNm, gFd, gIx, gTp, gsNil, gsCons, tTru, tBool, tAnd2, tOr2, tNot1, tYesD, addM_i, addM_s, addM_t, addM_oo, addM_bo, addM_ob, addM_lo, addM_ol, addM_ll, subM_i, mulM_i, mulM_o, fdivM_i, modM_i, intAddM_i, cmpM_i, min2M_i, max2M_i, negM_i, absM_i, toIntM_i, isnM_any, isN, eqM_i, eqM_b, eqM_s, eqM_t, ixM_t, ixM_o, ixM_l, ixM_k, ixM_r, ixM_b, truM_b, truM_i, truM_n, truM_t, truM_o, lenM, sumM, tupM, listM, slM, lget, lgetR, lput, iRng1D, iRng2D, iSeq, itOf, List.map_cons, List.map_nil, List.replicate_zero, List.replicate_succ, List.cons_append, List.nil_append, List.append_nil, List.getElem?_cons_succ, List.getElem?_cons_zero, List.set_cons_zero, List.set_cons_succ, List.length_cons, List.length_nil, Nat.reduceAdd, Nat.reduceSub, Nat.reduceLT, Nat.reduceLeDiff, Nat.sub_self, decide_eq_true_eq, sz0, sz1, sz2, sz3, sz4, sz5, sz6, sz7, sz8, ok_int, ok_bl, ok_non, ok_tup, ok_lst, eqb_int, eqb_bl, at0, at1, at2, at3, at4, at5, beq_iff_eq, ite_true, ite_false, Bool.false_eq_true, if_true, if_false, true_and, and_true, false_and, Bool.not_true, Bool.not_false])
  refine same_i (small (by omega) (by omega)) ?_
  (try simp only [fAsg, fPar, fPar2, fPar3, fIfS, fRet, fRetN, fDrop, fNil, fBreak, fCont, fAugN, fAugF, fApp, fRaise, mvL, moved, eVar, eVal, eOp2, eOp1, eTup, eLst, eNew, eIf, eAnd2, eOr2, eNot1, eFrz, asD, asB, eFld, eCall, eMake, eMeth, eSl, oNone, oSome, aNil, aCons, lNil, lCons, gNm, gFd, gIx, gTp, gsNil, gsCons, tTru, tBool, tAnd2, tOr2, tNot1, tYesD, addM_i, addM_s, addM_t, addM_oo, addM_bo, addM_ob, addM_lo, addM_ol, addM_ll, subM_i, mulM_i, mulM_o, fdivM_i, modM_i, intAddM_i, cmpM_i, min2M_i, max2M_i, negM_i, absM_i, toIntM_i, isnM_any, isN, eqM_i, eqM_b, eqM_s, eqM_t, ixM_t, ixM_o, ixM_l, ixM_k, ixM_r, ixM_b, truM_b, truM_i, truM_n, truM_t, truM_o, lenM, sumM, tupM, listM, slM, lget, lgetR, lput, iRng1D, iRng2D, iSeq, itOf, List.map_cons, List.map_nil, List.replicate_zero, List.replicate_succ, List.cons_append, List.nil_append, List.append_nil, List.getElem?_cons_succ, List.getElem?_cons_zero, List.set_cons_zero, List.set_cons_succ, List.length_cons, List.length_nil, Nat.reduceAdd, Nat.reduceSub, Nat.reduceLT, Nat.reduceLeDiff, Nat.sub_self, decide_eq_true_eq, sz0, sz1, sz2, sz3, sz4, sz5, sz6, sz7, sz8, ok_int, ok_bl, ok_non, ok_tup, ok_lst, eqb_int, eqb_bl, at0, at1, at2, at3, at4, at5, beq_iff_eq, ite_true, ite_false, Bool.false_eq_true, if_true, if_false, true_and, and_true, false_and, Bool.not_true, Bool.not_false])
  replace hd := hd.oth o (Ne.symm hn)
  refine fCons.go ?_
  (try simp only [fAsg, fPar, fPar2, fPar3, fIfS, fRet, fRetN, fDrop, fNil, fBreak, fCont, fAugN, fAugF, fApp, fRaise, mvL, moved, eVar, eVal, eOp2, eOp1, eTup, eLst, eNew, eIf, eAnd2, eOr2, eNot1, eFrz, asD, asB, eFld, eCall, eMake, eMeth, eSl, oNone, oSome, aNil, aCons, lNil, lCons, gNm, gFd, gIx, gTp, gsNil, gsCons, tTru, tBool, tAnd2, tOr2, tNot1, tYesD, addM_i, addM_s, addM_t, addM_oo, addM_bo, addM_ob, addM_lo, addM_ol, addM_ll, subM_i, mulM_i, mulM_o, fdivM_i, modM_i, intAddM_i, cmpM_i, min2M_i, max2M_i, negM_i, absM_i, toIntM_i, isnM_any, isN, eqM_i, eqM_b, eqM_s, eqM_t, ixM_t, ixM_o, ixM_l, ixM_k, ixM_r, ixM_b, truM_b, truM_i, truM_n, truM_t, truM_o, lenM, sumM, tupM, listM, slM, lget, lgetR, lput, iRng1D, iRng2D, iSeq, itOf, List.map_cons, List.map_nil, List.replicate_zero, List.replicate_succ, List.cons_append, List.nil_append, List.append_nil, List.getElem?_cons_succ, List.getElem?_cons_zero, List.set_cons_zero, List.set_cons_succ, List.length_cons, List.length_nil, Nat.reduceAdd, Nat.reduceSub, Nat.reduceLT, Nat.reduceLeDiff, Nat.sub_self, decide_eq_true_eq, sz0, sz1, sz2, sz3, sz4, sz5, sz6, sz7, sz8, ok_int, ok_bl, ok_non, ok_tup, ok_lst, eqb_int, eqb_bl, at0, at1, at2, at3, at4, at5, beq_iff_eq, ite_true, ite_false, Bool.false_eq_true, if_true, if_false, true_and, and_true, false_and, Bool.not_true, Bool.not_false, List.length_map])
  intro _
  have ol : oc.length ≤ 14 * ts.length := by rw [pm.length_eq]; exact expd_len ok
  refine ⟨⟨by omega, by omega, sz (by omega)⟩, fun _ => ⟨sz (by simp; omega), fun ad => ?_⟩⟩
  refine ⟨y2, iv (0 + (j : Int)), iv size, iv dead, y13, y14, y15, y16, ad, adT, ts ++ [((i : Int) + dead - 1, many, size)], oc ++ oct ((i : Int) + dead - 1, many, size), late, many + 1, whole, ?_, hd, em, ?_, ?_, ?_, ?_, ?_, ?_, t0, t1, wh⟩
  · have e : (List.replicate size.toNat [D.tup [.int ((i : Int) + dead - 1), .int many]]).flatten = (oct ((i : Int) + dead - 1, many, size)).map oD := by
      rw [List.flatten_replicate_singleton]
      simp [oct, oD, rowD, prL]
    rw [e, ← List.map_append]
  · rw [expd_app]
    have e : expd [((i : Int) + dead - 1, many, size)] = oct ((i : Int) + dead - 1, many, size) := by simp [expd]
    rw [e]
    exact pm.append_right _
  · intro t ht
    rcases List.mem_append.mp ht with h | h
    · obtain ⟨a1, a2, a3, a4, a5, a6⟩ := ok t h
      exact ⟨a1, a2, a3, by omega, a5, a6⟩
    · obtain rfl := List.mem_singleton.mp h
      exact ⟨by show 0 ≤ (i : Int) + dead - 1; omega, by show (i : Int) + dead - 1 ≤ 100; omega, m0, by show many < many + 1; omega, by show 0 < size; omega, by show size ≤ 14; omega⟩
  · rw [List.map_append, List.nodup_append]
    refine ⟨nd, by simp, fun x hx y hy => ?_⟩
    obtain ⟨t, ht, rfl⟩ := List.mem_map.mp hx
    simp at hy
    subst hy
    have := (ok t ht).2.2.2.1
    omega
  · simp; omega
  · omega
  · omega
def cD (p : Oc) : D := .tup [.int p.1, .int p.2]
theorem ok_row {n : Nat} (l : List Int) : (D.tup (l.map D.int)).ok (n + 1) = true := by
  rw [ok_tup, List.all_map, List.all_eq_true]
  exact fun x _ => ok_int
theorem ok_cD (n : Nat) (p : Oc) : (cD p).ok (n + 1) = true := ok_row [p.1, p.2]
theorem eqb_nil (ds : List D) : D.eqb (.lst ds) (.lst []) = ds.isEmpty := by
  cases ds <;> simp [D.eqb, D.eqbs]
/-- the octets that go, one by one -/
theorem owns (T : Tx K mg a) {zs : List Int} {i : Nat} {late0 many whole : Int} {l : Int} {n : Nat} {gone : List Oc} {y2 y5 y10 y11 y12 y15 y16 : Option P} {ad1 ad2 : Addr} {D' : FD} (hg : gone.length ≤ 1000)
    (hN : ∀ y15 ad2, D'.nx (Sl17 zs y2 (iv l) (some (.val (.ref n))) y5 (iv (late0 + cnt i gone)) (iv many) (iv whole) (iv i) y10 y11 y12 (some (.own ad1 (gone.map oD))) (some (.own ad2 ((gone.foldl grp []).map cD))) y15 y16) μ) :
    L_law_2 K a D' (Sl17 zs y2 (iv l) (some (.val (.ref n))) y5 (iv late0) (iv many) (iv whole) (iv i) y10 y11 y12 (some (.own ad1 (gone.map oD))) (some (.own ad2 [])) y15 y16) μ := by
  unfold L_law_2
  rw [fFor_eq]
  (try simp only [fAsg, fPar, fPar2, fPar3, fIfS, fRet, fRetN, fDrop, fNil, fBreak, fCont, fAugN, fAugF, fApp, fRaise, mvL, moved, eVar, eVal, eOp2, eOp1, eTup, eLst, eNew, eIf, eAnd2, eOr2, eNot1, eFrz, asD, asB, eFld, eCall, eMake, eMeth, eSl, oNone, oSome, aNil, aCons, lNil, lCons, gNm, gFd, gIx, gTp, gsNil, gsCons, tTru, tBool, tAnd2, tOr2, tNot1, tYesD, addM_i, addM_s, addM_t, addM_oo, addM_bo, addM_ob, addM_lo, addM_ol, addM_ll, subM_i, mulM_i, mulM_o, fdivM_i, modM_i, intAddM_i, cmpM_i, min2M_i, max2M_i, negM_i, absM_i, toIntM_i, isnM_any, isN, eqM_i, eqM_b, eqM_s, eqM_t, ixM_t, ixM_o, ixM_l, ixM_k, ixM_r, ixM_b, truM_b, truM_i, truM_n, truM_t, truM_o, lenM, sumM, tupM, listM, slM, lget, lgetR, lput, iRng1D, iRng2D, iSeq, itOf, List.map_cons, List.map_nil, List.replicate_zero, List.replicate_succ, List.cons_append, List.nil_append, List.append_nil, List.getElem?_cons_succ, List.getElem?_cons_zero, List.set_cons_zero, List.set_cons_succ, List.length_cons, List.length_nil, Nat.reduceAdd, Nat.reduceSub, Nat.reduceLT, Nat.reduceLeDiff, Nat.sub_self, decide_eq_true_eq, sz0, sz1, sz2, sz3, sz4, sz5, sz6, sz7, sz8, ok_int, ok_bl, ok_non, ok_tup, ok_lst, eqb_int, eqb_bl, at0, at1, at2, at3, at4, at5, beq_iff_eq, ite_true, ite_false, Bool.false_eq_true, if_true, if_false, true_and, and_true, false_and, Bool.not_true, Bool.not_false, Sl17, iv, Option.isSome_some])
  refine loop_liv gone.length (fun k δ μ' => μ' = μ ∧ k ≤ gone.length ∧ ∃ y15 ad2, δ = Sl17 zs y2 (iv l) (some (.val (.ref n))) y5 (iv (late0 + cnt i (gone.take k))) (iv many) (iv whole) (iv i) y10 y11 y12 (some (.own ad1 (gone.map oD))) (some (.own ad2 (((gone.take k).foldl grp []).map cD))) y15 y16)
    ⟨rfl, Nat.zero_le _, y15, ad2, by simp [cnt]⟩ ?_ ?_ ?_
  · rintro k δ' μ' ⟨rfl, _, y15, ad2, rfl⟩
    exact ⟨gone.map oD, by simp [lget, Sl17], by simp⟩
  · rintro k δ' μ' ds d hl hd ⟨rfl, _, y15, ad2, rfl⟩
    have hl' : ds = gone.map oD := by
      simp [lget, Sl17] at hl
      exact hl.symm
    subst hl'
    rw [List.getElem?_map] at hd
    cases q : gone[k]? with
    | none => rw [q] at hd; cases hd
    | some o =>
      rw [q] at hd
      cases hd
      have lt : k < gone.length := (List.getElem?_eq_some_iff.mp q).1
      have tk : gone.take (k + 1) = gone.take k ++ [o] := by rw [List.take_succ, q]; rfl
      have ct : cnt i (gone.take (k + 1)) = cnt i (gone.take k) + if o.1 < i then 1 else 0 := by
        rw [tk, cnt_app]
        congr 1
        unfold cnt
        by_cases h : o.1 < (i : Int) <;> simp [h]
      have gr : (gone.take (k + 1)).foldl grp [] = grp ((gone.take k).foldl grp []) o := by rw [tk, List.foldl_append]; rfl
      have gl : ((gone.take k).foldl grp []).length ≤ k := by
        have : ∀ (m : List Oc) (d : List Oc), (m.foldl grp d).length ≤ d.length + m.length := fun m => by
          induction m with
          | nil => intro d; simp
          | cons x m ih =>
            intro d
            have h1 := ih (grp d x)
            have h2 : (grp d x).length ≤ d.length + 1 := by
              unfold grp
              split
              · split
                · simp
                · simp
              · simp
            simp only [List.foldl_cons, List.length_cons]
            omega
        have h := this (gone.take k) []
        rw [List.length_take] at h
        simp at h
        omega
      generalize (gone.take k).foldl grp [] = due at gr gl
      have oDe : oD o = .tup [.int o.1, .int o.2] := rfl
      (try simp only [fAsg, fPar, fPar2, fPar3, fIfS, fRet, fRetN, fDrop, fNil, fBreak, fCont, fAugN, fAugF, fApp, fRaise, mvL, moved, eVar, eVal, eOp2, eOp1, eTup, eLst, eNew, eIf, eAnd2, eOr2, eNot1, eFrz, asD, asB, eFld, eCall, eMake, eMeth, eSl, oNone, oSome, aNil, aCons, lNil, lCons, gNm, gFd, gIx, gTp, gsNil, gsCons, tTru, tBool, tAnd2, tOr2, tNot1, tYesD, addM_i, addM_s, addM_t, addM_oo, addM_bo, addM_ob, addM_lo, addM_ol, addM_ll, subM_i, mulM_i, mulM_o, fdivM_i, modM_i, intAddM_i, cmpM_i, min2M_i, max2M_i, negM_i, absM_i, toIntM_i, isnM_any, isN, eqM_i, eqM_b, eqM_s, eqM_t, ixM_t, ixM_o, ixM_l, ixM_k, ixM_r, ixM_b, truM_b, truM_i, truM_n, truM_t, truM_o, lenM, sumM, tupM, listM, slM, lget, lgetR, lput, iRng1D, iRng2D, iSeq, itOf, List.map_cons, List.map_nil, List.replicate_zero, List.replicate_succ, List.cons_append, List.nil_append, List.append_nil, List.getElem?_cons_succ, List.getElem?_cons_zero, List.set_cons_zero, List.set_cons_succ, List.length_cons, List.length_nil, Nat.reduceAdd, Nat.reduceSub, Nat.reduceLT, Nat.reduceLeDiff, Nat.sub_self, decide_eq_true_eq, sz0, sz1, sz2, sz3, sz4, sz5, sz6, sz7, sz8, ok_int, ok_bl, ok_non, ok_tup, ok_lst, eqb_int, eqb_bl, at0, at1, at2, at3, at4, at5, beq_iff_eq, ite_true, ite_false, Bool.false_eq_true, if_true, if_false, true_and, and_true, false_and, Bool.not_true, Bool.not_false, Sl17, iv])
      refine ⟨fun δ2 μ2 => μ2 = μ' ∧ δ2 = Sl17 zs y2 (iv l) (some (.val (.ref n))) y5 (iv (late0 + cnt i (gone.take (k + 1)))) (iv many) (iv whole) (iv i) y10 y11 y12 (some (.own ad1 (gone.map oD))) (some (.own ad2 (due.map cD))) (some (.val (oD o))) y16, ?_, ?_⟩
      · (try simp only [fAsg, fPar, fPar2, fPar3, fIfS, fRet, fRetN, fDrop, fNil, fBreak, fCont, fAugN, fAugF, fApp, fRaise, mvL, moved, eVar, eVal, eOp2, eOp1, eTup, eLst, eNew, eIf, eAnd2, eOr2, eNot1, eFrz, asD, asB, eFld, eCall, eMake, eMeth, eSl, oNone, oSome, aNil, aCons, lNil, lCons, gNm, gFd, gIx, gTp, gsNil, gsCons, tTru, tBool, tAnd2, tOr2, tNot1, tYesD, addM_i, addM_s, addM_t, addM_oo, addM_bo, addM_ob, addM_lo, addM_ol, addM_ll, subM_i, mulM_i, mulM_o, fdivM_i, modM_i, intAddM_i, cmpM_i, min2M_i, max2M_i, negM_i, absM_i, toIntM_i, isnM_any, isN, eqM_i, eqM_b, eqM_s, eqM_t, ixM_t, ixM_o, ixM_l, ixM_k, ixM_r, ixM_b, truM_b, truM_i, truM_n, truM_t, truM_o, lenM, sumM, tupM, listM, slM, lget, lgetR, lput, iRng1D, iRng2D, iSeq, itOf, List.map_cons, List.map_nil, List.replicate_zero, List.replicate_succ, List.cons_append, List.nil_append, List.append_nil, List.getElem?_cons_succ, List.getElem?_cons_zero, List.set_cons_zero, List.set_cons_succ, List.length_cons, List.length_nil, Nat.reduceAdd, Nat.reduceSub, Nat.reduceLT, Nat.reduceLeDiff, Nat.sub_self, decide_eq_true_eq, sz0, sz1, sz2, sz3, sz4, sz5, sz6, sz7, sz8, ok_int, ok_bl, ok_non, ok_tup, ok_lst, eqb_int, eqb_bl, at0, at1, at2, at3, at4, at5, beq_iff_eq, ite_true, ite_false, Bool.false_eq_true, if_true, if_false, true_and, and_true, false_and, Bool.not_true, Bool.not_false, oDe])
        rw [ct]
        split
        · rw [Int.add_assoc]
        · rw [Int.add_zero, Int.add_zero]
      · rintro δ2 μ2 ⟨rfl, rfl⟩
        rw [gr]
        (try simp only [fAsg, fPar, fPar2, fPar3, fIfS, fRet, fRetN, fDrop, fNil, fBreak, fCont, fAugN, fAugF, fApp, fRaise, mvL, moved, eVar, eVal, eOp2, eOp1, eTup, eLst, eNew, eIf, eAnd2, eOr2, eNot1, eFrz, asD, asB, eFld, eCall, eMake, eMeth, eSl, oNone, oSome, aNil, aCons, lNil, lCons, gNm, gFd, gIx, gTp, gsNil, gsCons, tTru, tBool, tAnd2, tOr2, tNot1, tYesD, addM_i, addM_s, addM_t, addM_oo, addM_bo, addM_ob, addM_lo, addM_ol, addM_ll, subM_i, mulM_i, mulM_o, fdivM_i, modM_i, intAddM_i, cmpM_i, min2M_i, max2M_i, negM_i, absM_i, toIntM_i, isnM_any, isN, eqM_i, eqM_b, eqM_s, eqM_t, ixM_t, ixM_o, ixM_l, ixM_k, ixM_r, ixM_b, truM_b, truM_i, truM_n, truM_t, truM_o, lenM, sumM, tupM, listM, slM, lget, lgetR, lput, iRng1D, iRng2D, iSeq, itOf, List.map_cons, List.map_nil, List.replicate_zero, List.replicate_succ, List.cons_append, List.nil_append, List.append_nil, List.getElem?_cons_succ, List.getElem?_cons_zero, List.set_cons_zero, List.set_cons_succ, List.length_cons, List.length_nil, Nat.reduceAdd, Nat.reduceSub, Nat.reduceLT, Nat.reduceLeDiff, Nat.sub_self, decide_eq_true_eq, sz0, sz1, sz2, sz3, sz4, sz5, sz6, sz7, sz8, ok_int, ok_bl, ok_non, ok_tup, ok_lst, eqb_int, eqb_bl, at0, at1, at2, at3, at4, at5, beq_iff_eq, ite_true, ite_false, Bool.false_eq_true, if_true, if_false, true_and, and_true, false_and, Bool.not_true, Bool.not_false, Sl17, iv, oDe])
        intro a1
        rw [eqM_pd (x := .lst (due.map cD)) (y := .lst []) (by simp [pd, lget]) rfl (fun s e => by cases e), eqb_nil]
        refine ⟨⟨?_, rfl⟩, ?_⟩
        · rw [ok_lst, List.all_map, List.all_eq_true]
          exact fun x _ => ok_cD 62 x
        · cases hq : due.getLast? with
          | none =>
            have e : due = [] := List.getLast?_eq_none_iff.mp hq
            subst e
            (try simp only [fAsg, fPar, fPar2, fPar3, fIfS, fRet, fRetN, fDrop, fNil, fBreak, fCont, fAugN, fAugF, fApp, fRaise, mvL, moved, eVar, eVal, eOp2, eOp1, eTup, eLst, eNew, eIf, eAnd2, eOr2, eNot1, eFrz, asD, asB, eFld, eCall, eMake, eMeth, eSl, oNone, oSome, aNil, aCons, lNil, lCons, gNm, gFd, gIx, gTp, gsNil, gsCons, tTru, tBool, tAnd2, tOr2, tNot1, tYesD, addM_i, addM_s, addM_t, addM_oo, addM_bo, addM_ob, addM_lo, addM_ol, addM_ll, subM_i, mulM_i, mulM_o, fdivM_i, modM_i, intAddM_i, cmpM_i, min2M_i, max2M_i, negM_i, absM_i, toIntM_i, isnM_any, isN, eqM_i, eqM_b, eqM_s, eqM_t, ixM_t, ixM_o, ixM_l, ixM_k, ixM_r, ixM_b, truM_b, truM_i, truM_n, truM_t, truM_o, lenM, sumM, tupM, listM, slM, lget, lgetR, lput, iRng1D, iRng2D, iSeq, itOf, List.map_cons, List.map_nil, List.replicate_zero, List.replicate_succ, List.cons_append, List.nil_append, List.append_nil, List.getElem?_cons_succ, List.getElem?_cons_zero, List.set_cons_zero, List.set_cons_succ, List.length_cons, List.length_nil, Nat.reduceAdd, Nat.reduceSub, Nat.reduceLT, Nat.reduceLeDiff, Nat.sub_self, decide_eq_true_eq, sz0, sz1, sz2, sz3, sz4, sz5, sz6, sz7, sz8, ok_int, ok_bl, ok_non, ok_tup, ok_lst, eqb_int, eqb_bl, at0, at1, at2, at3, at4, at5, beq_iff_eq, ite_true, ite_false, Bool.false_eq_true, if_true, if_false, true_and, and_true, false_and, Bool.not_true, Bool.not_false, List.isEmpty_nil])
            intro a2 a3
            refine ⟨by omega, some (.val (oD o)), a3, ?_⟩
            simp [grp, cD, oDe]
          | some z =>
            have e1 : atI (due.map cD) (-1) = some (cD z) := at_last (by rw [List.getLast?_map, hq]; rfl)
            have e2 : (due.map cD).isEmpty = false := by
              obtain ⟨ys, rfl⟩ := List.getLast?_eq_some_iff.mp hq
              simp
            (try simp only [fAsg, fPar, fPar2, fPar3, fIfS, fRet, fRetN, fDrop, fNil, fBreak, fCont, fAugN, fAugF, fApp, fRaise, mvL, moved, eVar, eVal, eOp2, eOp1, eTup, eLst, eNew, eIf, eAnd2, eOr2, eNot1, eFrz, asD, asB, eFld, eCall, eMake, eMeth, eSl, oNone, oSome, aNil, aCons, lNil, lCons, gNm, gFd, gIx, gTp, gsNil, gsCons, tTru, tBool, tAnd2, tOr2, tNot1, tYesD, addM_i, addM_s, addM_t, addM_oo, addM_bo, addM_ob, addM_lo, addM_ol, addM_ll, subM_i, mulM_i, mulM_o, fdivM_i, modM_i, intAddM_i, cmpM_i, min2M_i, max2M_i, negM_i, absM_i, toIntM_i, isnM_any, isN, eqM_i, eqM_b, eqM_s, eqM_t, ixM_t, ixM_o, ixM_l, ixM_k, ixM_r, ixM_b, truM_b, truM_i, truM_n, truM_t, truM_o, lenM, sumM, tupM, listM, slM, lget, lgetR, lput, iRng1D, iRng2D, iSeq, itOf, List.map_cons, List.map_nil, List.replicate_zero, List.replicate_succ, List.cons_append, List.nil_append, List.append_nil, List.getElem?_cons_succ, List.getElem?_cons_zero, List.set_cons_zero, List.set_cons_succ, List.length_cons, List.length_nil, Nat.reduceAdd, Nat.reduceSub, Nat.reduceLT, Nat.reduceLeDiff, Nat.sub_self, decide_eq_true_eq, sz0, sz1, sz2, sz3, sz4, sz5, sz6, sz7, sz8, ok_int, ok_bl, ok_non, ok_tup, ok_lst, eqb_int, eqb_bl, at0, at1, at2, at3, at4, at5, beq_iff_eq, ite_true, ite_false, Bool.false_eq_true, if_true, if_false, true_and, and_true, false_and, Bool.not_true, Bool.not_false, e1, e2, cD])
            by_cases same : z.1 = o.2
            · (try simp only [fAsg, fPar, fPar2, fPar3, fIfS, fRet, fRetN, fDrop, fNil, fBreak, fCont, fAugN, fAugF, fApp, fRaise, mvL, moved, eVar, eVal, eOp2, eOp1, eTup, eLst, eNew, eIf, eAnd2, eOr2, eNot1, eFrz, asD, asB, eFld, eCall, eMake, eMeth, eSl, oNone, oSome, aNil, aCons, lNil, lCons, gNm, gFd, gIx, gTp, gsNil, gsCons, tTru, tBool, tAnd2, tOr2, tNot1, tYesD, addM_i, addM_s, addM_t, addM_oo, addM_bo, addM_ob, addM_lo, addM_ol, addM_ll, subM_i, mulM_i, mulM_o, fdivM_i, modM_i, intAddM_i, cmpM_i, min2M_i, max2M_i, negM_i, absM_i, toIntM_i, isnM_any, isN, eqM_i, eqM_b, eqM_s, eqM_t, ixM_t, ixM_o, ixM_l, ixM_k, ixM_r, ixM_b, truM_b, truM_i, truM_n, truM_t, truM_o, lenM, sumM, tupM, listM, slM, lget, lgetR, lput, iRng1D, iRng2D, iSeq, itOf, List.map_cons, List.map_nil, List.replicate_zero, List.replicate_succ, List.cons_append, List.nil_append, List.append_nil, List.getElem?_cons_succ, List.getElem?_cons_zero, List.set_cons_zero, List.set_cons_succ, List.length_cons, List.length_nil, Nat.reduceAdd, Nat.reduceSub, Nat.reduceLT, Nat.reduceLeDiff, Nat.sub_self, decide_eq_true_eq, sz0, sz1, sz2, sz3, sz4, sz5, sz6, sz7, sz8, ok_int, ok_bl, ok_non, ok_tup, ok_lst, eqb_int, eqb_bl, at0, at1, at2, at3, at4, at5, beq_iff_eq, ite_true, ite_false, Bool.false_eq_true, if_true, if_false, true_and, and_true, false_and, Bool.not_true, Bool.not_false, same, beq_self_eq_true, e1, cut_last, List.length_map])
              intro _ _
              refine ⟨sz (by simp; omega), fun c => ⟨by omega, some (.val (oD o)), c, ?_⟩⟩
              have eg : grp due o = due.dropLast ++ [(o.2, z.2 + 1)] := by simp [grp, hq, same]
              rw [eg]
              simp [cD, oDe, List.map_dropLast]
            · (try simp only [fAsg, fPar, fPar2, fPar3, fIfS, fRet, fRetN, fDrop, fNil, fBreak, fCont, fAugN, fAugF, fApp, fRaise, mvL, moved, eVar, eVal, eOp2, eOp1, eTup, eLst, eNew, eIf, eAnd2, eOr2, eNot1, eFrz, asD, asB, eFld, eCall, eMake, eMeth, eSl, oNone, oSome, aNil, aCons, lNil, lCons, gNm, gFd, gIx, gTp, gsNil, gsCons, tTru, tBool, tAnd2, tOr2, tNot1, tYesD, addM_i, addM_s, addM_t, addM_oo, addM_bo, addM_ob, addM_lo, addM_ol, addM_ll, subM_i, mulM_i, mulM_o, fdivM_i, modM_i, intAddM_i, cmpM_i, min2M_i, max2M_i, negM_i, absM_i, toIntM_i, isnM_any, isN, eqM_i, eqM_b, eqM_s, eqM_t, ixM_t, ixM_o, ixM_l, ixM_k, ixM_r, ixM_b, truM_b, truM_i, truM_n, truM_t, truM_o, lenM, sumM, tupM, listM, slM, lget, lgetR, lput, iRng1D, iRng2D, iSeq, itOf, List.map_cons, List.map_nil, List.replicate_zero, List.replicate_succ, List.cons_append, List.nil_append, List.append_nil, List.getElem?_cons_succ, List.getElem?_cons_zero, List.set_cons_zero, List.set_cons_succ, List.length_cons, List.length_nil, Nat.reduceAdd, Nat.reduceSub, Nat.reduceLT, Nat.reduceLeDiff, Nat.sub_self, decide_eq_true_eq, sz0, sz1, sz2, sz3, sz4, sz5, sz6, sz7, sz8, ok_int, ok_bl, ok_non, ok_tup, ok_lst, eqb_int, eqb_bl, at0, at1, at2, at3, at4, at5, beq_iff_eq, ite_true, ite_false, Bool.false_eq_true, if_true, if_false, true_and, and_true, false_and, Bool.not_true, Bool.not_false, same, beq_eq_false_iff_ne.mpr same])
              intro _
              refine ⟨sz (by simp; omega), fun c => ⟨by omega, some (.val (oD o)), c, ?_⟩⟩
              have eg : grp due o = due ++ [(o.2, 1)] := by simp [grp, hq, same]
              rw [eg]
              simp [cD, oDe]
  · rintro δ' μ' ⟨rfl, _, y15, ad2, rfl⟩
    rw [List.take_length]
    exact hN y15 ad2
theorem same_i' {i : Int} (h : i.natAbs.log2 < 1920) (hC : C (.val (.bl true)) μ) : d_law_same K a [.int i, .int i] μ C E := same_i h hC
theorem same_t' {ds : List D} (h1 : (D.tup ds).ok 60 = true) (h2 : (D.tup ds).small = true) (h3 : (D.tup ds).nd ≤ 100000) (hC : C (.val (.bl true)) μ) : d_law_same K a [.tup ds, .tup ds] μ C E := same_t h1 h2 h3 hC
theorem nd_nD (t : Th) : (nD t).nd = 3 := rfl
theorem nds_nD : ∀ ts : List Th, D.nds (ts.map nD) = 3 * ts.length
  | [] => rfl
  | t :: r => by
    simp only [List.map_cons, D.nds, nds_nD r, List.length_cons, nd_nD]
    omega
theorem small_nD {many : Int} (hm : many ≤ 100) : ∀ {ts : List Th}, (∀ t ∈ ts, Ok many t) → D.smalls (ts.map nD) = true
  | [], _ => rfl
  | t :: r, h => by
    obtain ⟨a1, a2, a3, a4, a5, a6⟩ := h t List.mem_cons_self
    simp only [List.map_cons, D.smalls, small_nD hm fun u hu => h u (List.mem_cons_of_mem _ hu), Bool.and_true]
    simp only [nD, D.small, D.smalls, Bool.and_true, Bool.and_eq_true, decide_eq_true_eq]
    omega
theorem ticks (T : Tx K mg a) {zs : List Int} {l : Int} {n : Nat} {D' : FD} {δ : Sl} (hl1 : 1 ≤ l) (hl2 : l ≤ 9) (hn : n ≠ 0) (st : ∃ y9, Q1 a zs l n 0 0 y9 δ μ) (hN : ∀ δ' μ' i y9, i ≤ 25 → Q1 a zs l n i 0 y9 δ' μ' → D'.nx δ' μ') : L_law_3 K a D' δ μ := by
  obtain ⟨y9, y2, y10, y11, y12, y13, y14, y15, y16, ad, adT, ts, oc, late, many, whole, rfl, hd, em, pm, ok, nd, len, m0, m1, t0, t1, wh⟩ := st
  unfold L_law_3
  rw [fFor_eq]
  (try simp only [fAsg, fPar, fPar2, fPar3, fIfS, fRet, fRetN, fDrop, fNil, fBreak, fCont, fAugN, fAugF, fApp, fRaise, mvL, moved, eVar, eVal, eOp2, eOp1, eTup, eLst, eNew, eIf, eAnd2, eOr2, eNot1, eFrz, asD, asB, eFld, eCall, eMake, eMeth, eSl, oNone, oSome, aNil, aCons, lNil, lCons, gNm, gFd, gIx, gTp, gsNil, gsCons, tTru, tBool, tAnd2, tOr2, tNot1, tYesD, addM_i, addM_s, addM_t, addM_oo, addM_bo, addM_ob, addM_lo, addM_ol, addM_ll, subM_i, mulM_i, mulM_o, fdivM_i, modM_i, intAddM_i, cmpM_i, min2M_i, max2M_i, negM_i, absM_i, toIntM_i, isnM_any, isN, eqM_i, eqM_b, eqM_s, eqM_t, ixM_t, ixM_o, ixM_l, ixM_k, ixM_r, ixM_b, truM_b, truM_i, truM_n, truM_t, truM_o, lenM, sumM, tupM, listM, slM, lget, lgetR, lput, iRng1D, iRng2D, iSeq, itOf, List.map_cons, List.map_nil, List.replicate_zero, List.replicate_succ, List.cons_append, List.nil_append, List.append_nil, List.getElem?_cons_succ, List.getElem?_cons_zero, List.set_cons_zero, List.set_cons_succ, List.length_cons, List.length_nil, Nat.reduceAdd, Nat.reduceSub, Nat.reduceLT, Nat.reduceLeDiff, Nat.sub_self, decide_eq_true_eq, sz0, sz1, sz2, sz3, sz4, sz5, sz6, sz7, sz8, ok_int, ok_bl, ok_non, ok_tup, ok_lst, eqb_int, eqb_bl, at0, at1, at2, at3, at4, at5, beq_iff_eq, ite_true, ite_false, Bool.false_eq_true, if_true, if_false, true_and, and_true, false_and, Bool.not_true, Bool.not_false, Sl17, iv])
  refine take__ hd (by decide) (by decide) fun v μ' v1 v2 hd' o => ?_
  refine ⟨⟨by omega, by omega⟩, ?_⟩
  refine loop_rng (fun i δ μ => ∃ y9, Q1 a zs l n i 0 y9 δ μ) ⟨y9, y2, y10, y11, y12, y13, y14, y15, y16, ad, adT, ts, oc, late, many, whole, rfl, hd', o.at hn em, pm, ok, nd, len, m0, m1, t0, t1, wh⟩ ?_ fun δ' μ' ⟨y9, q⟩ => hN δ' μ' _ y9 (by omega) q
  clear hd em pm ok nd len m0 m1 t0 t1 wh hd' o
  rintro i δ' μ hi ⟨y9, y2, y10, y11, y12, y13, y14, y15, y16, ad, adT, ts, oc, late, many, whole, rfl, hd, em, pm, ok, nd, len, m0, m1, t0, t1, wh⟩
  have hi25 : i ≤ 25 := by omega
  (try simp only [fAsg, fPar, fPar2, fPar3, fIfS, fRet, fRetN, fDrop, fNil, fBreak, fCont, fAugN, fAugF, fApp, fRaise, mvL, moved, eVar, eVal, eOp2, eOp1, eTup, eLst, eNew, eIf, eAnd2, eOr2, eNot1, eFrz, asD, asB, eFld, eCall, eMake, eMeth, eSl, oNone, oSome, aNil, aCons, lNil, lCons, gNm, gFd, gIx, gTp, gsNil, gsCons, tTru, tBool, tAnd2, tOr2, tNot1, tYesD, addM_i, addM_s, addM_t, addM_oo, addM_bo, addM_ob, addM_lo, addM_ol, addM_ll, subM_i, mulM_i, mulM_o, fdivM_i, modM_i, intAddM_i, cmpM_i, min2M_i, max2M_i, negM_i, absM_i, toIntM_i, isnM_any, isN, eqM_i, eqM_b, eqM_s, eqM_t, ixM_t, ixM_o, ixM_l, ixM_k, ixM_r, ixM_b, truM_b, truM_i, truM_n, truM_t, truM_o, lenM, sumM, tupM, listM, slM, lget, lgetR, lput, iRng1D, iRng2D, iSeq, itOf, List.map_cons, List.map_nil, List.replicate_zero, List.replicate_succ, List.cons_append, List.nil_append, List.append_nil, List.getElem?_cons_succ, List.getElem?_cons_zero, List.set_cons_zero, List.set_cons_succ, List.length_cons, List.length_nil, Nat.reduceAdd, Nat.reduceSub, Nat.reduceLT, Nat.reduceLeDiff, Nat.sub_self, decide_eq_true_eq, sz0, sz1, sz2, sz3, sz4, sz5, sz6, sz7, sz8, ok_int, ok_bl, ok_non, ok_tup, ok_lst, eqb_int, eqb_bl, at0, at1, at2, at3, at4, at5, beq_iff_eq, ite_true, ite_false, Bool.false_eq_true, if_true, if_false, true_and, and_true, false_and, Bool.not_true, Bool.not_false, Sl17, iv, Int.zero_add])
  refine fCons.go (puts T hi25 hn ⟨y2, y10, y11, y12, y13, y14, y15, y16, ad, adT, ts, oc, late, many, whole, rfl, hd, em, pm, ok, nd, len, m0, m1, t0, t1, wh⟩ fun δ' μ j hj q => ?_)
  clear hd em pm ok nd len m0 m1 t0 t1 wh
  obtain ⟨y2, y10, y11, y12, y13, y14, y15, y16, ad, adT, ts, oc, late, many, whole, rfl, hd, em, pm, ok, nd, len, m0, m1, t0, t1, wh⟩ := q
  -- octets = sorted(octets)
  refine fCons.go ?_
  (try simp only [fAsg, fPar, fPar2, fPar3, fIfS, fRet, fRetN, fDrop, fNil, fBreak, fCont, fAugN, fAugF, fApp, fRaise, mvL, moved, eVar, eVal, eOp2, eOp1, eTup, eLst, eNew, eIf, eAnd2, eOr2, eNot1, eFrz, asD, asB, eFld, eCall, eMake, eMeth, eSl, oNone, oSome, aNil, aCons, lNil, lCons, gNm, gFd, gIx, gTp, gsNil, gsCons, tTru, tBool, tAnd2, tOr2, tNot1, tYesD, addM_i, addM_s, addM_t, addM_oo, addM_bo, addM_ob, addM_lo, addM_ol, addM_ll, subM_i, mulM_i, mulM_o, fdivM_i, modM_i, intAddM_i, cmpM_i, min2M_i, max2M_i, negM_i, absM_i, toIntM_i, isnM_any, isN, eqM_i, eqM_b, eqM_s, eqM_t, ixM_t, ixM_o, ixM_l, ixM_k, ixM_r, ixM_b, truM_b, truM_i, truM_n, truM_t, truM_o, lenM, sumM, tupM, listM, slM, lget, lgetR, lput, iRng1D, iRng2D, iSeq, itOf, List.map_cons, List.map_nil, List.replicate_zero, List.replicate_succ, List.cons_append, List.nil_append, List.append_nil, List.getElem?_cons_succ, List.getElem?_cons_zero, List.set_cons_zero, List.set_cons_succ, List.length_cons, List.length_nil, Nat.reduceAdd, Nat.reduceSub, Nat.reduceLT, Nat.reduceLeDiff, Nat.sub_self, decide_eq_true_eq, sz0, sz1, sz2, sz3, sz4, sz5, sz6, sz7, sz8, ok_int, ok_bl, ok_non, ok_tup, ok_lst, eqb_int, eqb_bl, at0, at1, at2, at3, at4, at5, beq_iff_eq, ite_true, ite_false, Bool.false_eq_true, if_true, if_false, true_and, and_true, false_and, Bool.not_true, Bool.not_false, Sl17, iv])
  refine sortM_rows (L := oc.map prL) (d := 2) ?_ (by decide) (fun l h => ?_) fun L' h1 h2 adL => ?_
  · (try simp only [fAsg, fPar, fPar2, fPar3, fIfS, fRet, fRetN, fDrop, fNil, fBreak, fCont, fAugN, fAugF, fApp, fRaise, mvL, moved, eVar, eVal, eOp2, eOp1, eTup, eLst, eNew, eIf, eAnd2, eOr2, eNot1, eFrz, asD, asB, eFld, eCall, eMake, eMeth, eSl, oNone, oSome, aNil, aCons, lNil, lCons, gNm, gFd, gIx, gTp, gsNil, gsCons, tTru, tBool, tAnd2, tOr2, tNot1, tYesD, addM_i, addM_s, addM_t, addM_oo, addM_bo, addM_ob, addM_lo, addM_ol, addM_ll, subM_i, mulM_i, mulM_o, fdivM_i, modM_i, intAddM_i, cmpM_i, min2M_i, max2M_i, negM_i, absM_i, toIntM_i, isnM_any, isN, eqM_i, eqM_b, eqM_s, eqM_t, ixM_t, ixM_o, ixM_l, ixM_k, ixM_r, ixM_b, truM_b, truM_i, truM_n, truM_t, truM_o, lenM, sumM, tupM, listM, slM, lget, lgetR, lput, iRng1D, iRng2D, iSeq, itOf, List.map_cons, List.map_nil, List.replicate_zero, List.replicate_succ, List.cons_append, List.nil_append, List.append_nil, List.getElem?_cons_succ, List.getElem?_cons_zero, List.set_cons_zero, List.set_cons_succ, List.length_cons, List.length_nil, Nat.reduceAdd, Nat.reduceSub, Nat.reduceLT, Nat.reduceLeDiff, Nat.sub_self, decide_eq_true_eq, sz0, sz1, sz2, sz3, sz4, sz5, sz6, sz7, sz8, ok_int, ok_bl, ok_non, ok_tup, ok_lst, eqb_int, eqb_bl, at0, at1, at2, at3, at4, at5, beq_iff_eq, ite_true, ite_false, Bool.false_eq_true, if_true, if_false, true_and, and_true, false_and, Bool.not_true, Bool.not_false])
    rw [List.map_map]
    rfl
  · obtain ⟨t, _, rfl⟩ := List.mem_map.mp h
    rfl
  obtain ⟨oc', rfl, pm'⟩ := perm_rows (fun x y => prL_inj) h1
  have srt : oc'.Pairwise (fun x y => lexI (prL y) (prL x) = false) := List.pairwise_map.mp h2
  rw [List.map_map, show rowD ∘ prL = oD from rfl]
  have ol : oc'.length ≤ 14 * ts.length := by rw [pm'.length_eq, pm.length_eq]; exact expd_len ok
  -- gone, octets
  refine fCons.go ?_
  (try simp only [fAsg, fPar, fPar2, fPar3, fIfS, fRet, fRetN, fDrop, fNil, fBreak, fCont, fAugN, fAugF, fApp, fRaise, mvL, moved, eVar, eVal, eOp2, eOp1, eTup, eLst, eNew, eIf, eAnd2, eOr2, eNot1, eFrz, asD, asB, eFld, eCall, eMake, eMeth, eSl, oNone, oSome, aNil, aCons, lNil, lCons, gNm, gFd, gIx, gTp, gsNil, gsCons, tTru, tBool, tAnd2, tOr2, tNot1, tYesD, addM_i, addM_s, addM_t, addM_oo, addM_bo, addM_ob, addM_lo, addM_ol, addM_ll, subM_i, mulM_i, mulM_o, fdivM_i, modM_i, intAddM_i, cmpM_i, min2M_i, max2M_i, negM_i, absM_i, toIntM_i, isnM_any, isN, eqM_i, eqM_b, eqM_s, eqM_t, ixM_t, ixM_o, ixM_l, ixM_k, ixM_r, ixM_b, truM_b, truM_i, truM_n, truM_t, truM_o, lenM, sumM, tupM, listM, slM, lget, lgetR, lput, iRng1D, iRng2D, iSeq, itOf, List.map_cons, List.map_nil, List.replicate_zero, List.replicate_succ, List.cons_append, List.nil_append, List.append_nil, List.getElem?_cons_succ, List.getElem?_cons_zero, List.set_cons_zero, List.set_cons_succ, List.length_cons, List.length_nil, Nat.reduceAdd, Nat.reduceSub, Nat.reduceLT, Nat.reduceLeDiff, Nat.sub_self, decide_eq_true_eq, sz0, sz1, sz2, sz3, sz4, sz5, sz6, sz7, sz8, ok_int, ok_bl, ok_non, ok_tup, ok_lst, eqb_int, eqb_bl, at0, at1, at2, at3, at4, at5, beq_iff_eq, ite_true, ite_false, Bool.false_eq_true, if_true, if_false, true_and, and_true, false_and, Bool.not_true, Bool.not_false])
  intro adG adR
  rw [cut_pre (k := l.toNat) (by omega), cut_post (k := l.toNat) (by omega), ← List.map_take, ← List.map_drop]
  (try simp only [fAsg, fPar, fPar2, fPar3, fIfS, fRet, fRetN, fDrop, fNil, fBreak, fCont, fAugN, fAugF, fApp, fRaise, mvL, moved, eVar, eVal, eOp2, eOp1, eTup, eLst, eNew, eIf, eAnd2, eOr2, eNot1, eFrz, asD, asB, eFld, eCall, eMake, eMeth, eSl, oNone, oSome, aNil, aCons, lNil, lCons, gNm, gFd, gIx, gTp, gsNil, gsCons, tTru, tBool, tAnd2, tOr2, tNot1, tYesD, addM_i, addM_s, addM_t, addM_oo, addM_bo, addM_ob, addM_lo, addM_ol, addM_ll, subM_i, mulM_i, mulM_o, fdivM_i, modM_i, intAddM_i, cmpM_i, min2M_i, max2M_i, negM_i, absM_i, toIntM_i, isnM_any, isN, eqM_i, eqM_b, eqM_s, eqM_t, ixM_t, ixM_o, ixM_l, ixM_k, ixM_r, ixM_b, truM_b, truM_i, truM_n, truM_t, truM_o, lenM, sumM, tupM, listM, slM, lget, lgetR, lput, iRng1D, iRng2D, iSeq, itOf, List.map_cons, List.map_nil, List.replicate_zero, List.replicate_succ, List.cons_append, List.nil_append, List.append_nil, List.getElem?_cons_succ, List.getElem?_cons_zero, List.set_cons_zero, List.set_cons_succ, List.length_cons, List.length_nil, Nat.reduceAdd, Nat.reduceSub, Nat.reduceLT, Nat.reduceLeDiff, Nat.sub_self, decide_eq_true_eq, sz0, sz1, sz2, sz3, sz4, sz5, sz6, sz7, sz8, ok_int, ok_bl, ok_non, ok_tup, ok_lst, eqb_int, eqb_bl, at0, at1, at2, at3, at4, at5, beq_iff_eq, ite_true, ite_false, Bool.false_eq_true, if_true, if_false, true_and, and_true, false_and, Bool.not_true, Bool.not_false])
  -- due = []
  refine fCons.go ?_
  (try simp only [fAsg, fPar, fPar2, fPar3, fIfS, fRet, fRetN, fDrop, fNil, fBreak, fCont, fAugN, fAugF, fApp, fRaise, mvL, moved, eVar, eVal, eOp2, eOp1, eTup, eLst, eNew, eIf, eAnd2, eOr2, eNot1, eFrz, asD, asB, eFld, eCall, eMake, eMeth, eSl, oNone, oSome, aNil, aCons, lNil, lCons, gNm, gFd, gIx, gTp, gsNil, gsCons, tTru, tBool, tAnd2, tOr2, tNot1, tYesD, addM_i, addM_s, addM_t, addM_oo, addM_bo, addM_ob, addM_lo, addM_ol, addM_ll, subM_i, mulM_i, mulM_o, fdivM_i, modM_i, intAddM_i, cmpM_i, min2M_i, max2M_i, negM_i, absM_i, toIntM_i, isnM_any, isN, eqM_i, eqM_b, eqM_s, eqM_t, ixM_t, ixM_o, ixM_l, ixM_k, ixM_r, ixM_b, truM_b, truM_i, truM_n, truM_t, truM_o, lenM, sumM, tupM, listM, slM, lget, lgetR, lput, iRng1D, iRng2D, iSeq, itOf, List.map_cons, List.map_nil, List.replicate_zero, List.replicate_succ, List.cons_append, List.nil_append, List.append_nil, List.getElem?_cons_succ, List.getElem?_cons_zero, List.set_cons_zero, List.set_cons_succ, List.length_cons, List.length_nil, Nat.reduceAdd, Nat.reduceSub, Nat.reduceLT, Nat.reduceLeDiff, Nat.sub_self, decide_eq_true_eq, sz0, sz1, sz2, sz3, sz4, sz5, sz6, sz7, sz8, ok_int, ok_bl, ok_non, ok_tup, ok_lst, eqb_int, eqb_bl, at0, at1, at2, at3, at4, at5, beq_iff_eq, ite_true, ite_false, Bool.false_eq_true, if_true, if_false, true_and, and_true, false_and, Bool.not_true, Bool.not_false])
  intro adD
  refine fCons.go (owns T (gone := oc'.take l.toNat) (by rw [List.length_take]; omega) fun y15 adE => ?_)
  refine fCons.go ?_
  (try simp only [fAsg, fPar, fPar2, fPar3, fIfS, fRet, fRetN, fDrop, fNil, fBreak, fCont, fAugN, fAugF, fApp, fRaise, mvL, moved, eVar, eVal, eOp2, eOp1, eTup, eLst, eNew, eIf, eAnd2, eOr2, eNot1, eFrz, asD, asB, eFld, eCall, eMake, eMeth, eSl, oNone, oSome, aNil, aCons, lNil, lCons, gNm, gFd, gIx, gTp, gsNil, gsCons, tTru, tBool, tAnd2, tOr2, tNot1, tYesD, addM_i, addM_s, addM_t, addM_oo, addM_bo, addM_ob, addM_lo, addM_ol, addM_ll, subM_i, mulM_i, mulM_o, fdivM_i, modM_i, intAddM_i, cmpM_i, min2M_i, max2M_i, negM_i, absM_i, toIntM_i, isnM_any, isN, eqM_i, eqM_b, eqM_s, eqM_t, ixM_t, ixM_o, ixM_l, ixM_k, ixM_r, ixM_b, truM_b, truM_i, truM_n, truM_t, truM_o, lenM, sumM, tupM, listM, slM, lget, lgetR, lput, iRng1D, iRng2D, iSeq, itOf, List.map_cons, List.map_nil, List.replicate_zero, List.replicate_succ, List.cons_append, List.nil_append, List.append_nil, List.getElem?_cons_succ, List.getElem?_cons_zero, List.set_cons_zero, List.set_cons_succ, List.length_cons, List.length_nil, Nat.reduceAdd, Nat.reduceSub, Nat.reduceLT, Nat.reduceLeDiff, Nat.sub_self, decide_eq_true_eq, sz0, sz1, sz2, sz3, sz4, sz5, sz6, sz7, sz8, ok_int, ok_bl, ok_non, ok_tup, ok_lst, eqb_int, eqb_bl, at0, at1, at2, at3, at4, at5, beq_iff_eq, ite_true, ite_false, Bool.false_eq_true, if_true, if_false, true_and, and_true, false_and, Bool.not_true, Bool.not_false, Sl17, iv, List.length_map])
  -- the tick
  refine fCons.go ?_
  (try simp only [fAsg, fPar, fPar2, fPar3, fIfS, fRet, fRetN, fDrop, fNil, fBreak, fCont, fAugN, fAugF, fApp, fRaise, mvL, moved, eVar, eVal, eOp2, eOp1, eTup, eLst, eNew, eIf, eAnd2, eOr2, eNot1, eFrz, asD, asB, eFld, eCall, eMake, eMeth, eSl, oNone, oSome, aNil, aCons, lNil, lCons, gNm, gFd, gIx, gTp, gsNil, gsCons, tTru, tBool, tAnd2, tOr2, tNot1, tYesD, addM_i, addM_s, addM_t, addM_oo, addM_bo, addM_ob, addM_lo, addM_ol, addM_ll, subM_i, mulM_i, mulM_o, fdivM_i, modM_i, intAddM_i, cmpM_i, min2M_i, max2M_i, negM_i, absM_i, toIntM_i, isnM_any, isN, eqM_i, eqM_b, eqM_s, eqM_t, ixM_t, ixM_o, ixM_l, ixM_k, ixM_r, ixM_b, truM_b, truM_i, truM_n, truM_t, truM_o, lenM, sumM, tupM, listM, slM, lget, lgetR, lput, iRng1D, iRng2D, iSeq, itOf, List.map_cons, List.map_nil, List.replicate_zero, List.replicate_succ, List.cons_append, List.nil_append, List.append_nil, List.getElem?_cons_succ, List.getElem?_cons_zero, List.set_cons_zero, List.set_cons_succ, List.length_cons, List.length_nil, Nat.reduceAdd, Nat.reduceSub, Nat.reduceLT, Nat.reduceLeDiff, Nat.sub_self, decide_eq_true_eq, sz0, sz1, sz2, sz3, sz4, sz5, sz6, sz7, sz8, ok_int, ok_bl, ok_non, ok_tup, ok_lst, eqb_int, eqb_bl, at0, at1, at2, at3, at4, at5, beq_iff_eq, ite_true, ite_false, Bool.false_eq_true, if_true, if_false, true_and, and_true, false_and, Bool.not_true, Bool.not_false, em, o_Haste, lk_Haste__line, pi_Haste__line, pt_Haste__line, fk_Haste__line T, lk_Haste__now, pi_Haste__now, pt_Haste__now, fk_Haste__now T, lk_Haste__many, pi_Haste__many, pt_Haste__many, fk_Haste__many T, lk_Haste__things, pi_Haste__things, pt_Haste__things, fk_Haste__things T, lk_Haste__late, pi_Haste__late, pt_Haste__late, fk_Haste__late T, lm_Haste_now, tb_Haste_now, lm_Haste_put, tb_Haste_put, lm_Haste_waiting, tb_Haste_waiting, lm_Haste_late, tb_Haste_late, lm_Haste_overdue, tb_Haste_overdue, lm_Haste_tick, tb_Haste_tick])
  refine tick_ T (by omega) (ok_pos ok) (by omega) em fun ts' μ adK pmT srtT em o => ?_
  have ok' : ∀ t ∈ ts', Ok many t := fun t h => ok t (pmT.mem_iff.mp h)
  have e0 : oc' = expd ts' := sorted_expd pm pm' srt pmT srtT
  have nd' : (ts'.map fun t => t.2.1).Nodup := (pmT.map _).nodup_iff.mpr nd
  obtain ⟨cut1, cut2⟩ := take_expd (left := l) (by omega) (ok_pos ok')
  obtain ⟨_, cl, ck⟩ := cut_expd ts' l (by omega) (ok_pos ok')
  have okF := fnd_ok ts' l (by omega) ok'
  have okK := kpt_ok ts' l (by omega) ok'
  have due : ((oc'.take l.toNat).foldl grp []).map cD = (fnd l ts').map nD := by
    rw [e0, cut1, grp_expd _ _ (ok_pos okF) ((fnd_sub ts' l).nodup nd') (fun q h => by simp at h), List.nil_append, List.map_map]
    rfl
  rw [due]
  have fl := fnd_len ts' l
  have kl := kpt_len ts' l
  have tl := pmT.length_eq
  (try simp only [fAsg, fPar, fPar2, fPar3, fIfS, fRet, fRetN, fDrop, fNil, fBreak, fCont, fAugN, fAugF, fApp, fRaise, mvL, moved, eVar, eVal, eOp2, eOp1, eTup, eLst, eNew, eIf, eAnd2, eOr2, eNot1, eFrz, asD, asB, eFld, eCall, eMake, eMeth, eSl, oNone, oSome, aNil, aCons, lNil, lCons, gNm, gFd, gIx, gTp, gsNil, gsCons, tTru, tBool, tAnd2, tOr2, tNot1, tYesD, addM_i, addM_s, addM_t, addM_oo, addM_bo, addM_ob, addM_lo, addM_ol, addM_ll, subM_i, mulM_i, mulM_o, fdivM_i, modM_i, intAddM_i, cmpM_i, min2M_i, max2M_i, negM_i, absM_i, toIntM_i, isnM_any, isN, eqM_i, eqM_b, eqM_s, eqM_t, ixM_t, ixM_o, ixM_l, ixM_k, ixM_r, ixM_b, truM_b, truM_i, truM_n, truM_t, truM_o, lenM, sumM, tupM, listM, slM, lget, lgetR, lput, iRng1D, iRng2D, iSeq, itOf, List.map_cons, List.map_nil, List.replicate_zero, List.replicate_succ, List.cons_append, List.nil_append, List.append_nil, List.getElem?_cons_succ, List.getElem?_cons_zero, List.set_cons_zero, List.set_cons_succ, List.length_cons, List.length_nil, Nat.reduceAdd, Nat.reduceSub, Nat.reduceLT, Nat.reduceLeDiff, Nat.sub_self, decide_eq_true_eq, sz0, sz1, sz2, sz3, sz4, sz5, sz6, sz7, sz8, ok_int, ok_bl, ok_non, ok_tup, ok_lst, eqb_int, eqb_bl, at0, at1, at2, at3, at4, at5, beq_iff_eq, ite_true, ite_false, Bool.false_eq_true, if_true, if_false, true_and, and_true, false_and, Bool.not_true, Bool.not_false])
  refine same_t' ?_ ?_ ?_ ?_
  · rw [ok_tup, List.all_map, List.all_eq_true]
    exact fun x _ => ok_row [x.2.1, x.2.2]
  · exact small_nD (by omega) okF
  · show 1 + D.nds _ ≤ _
    rw [nds_nD]
    omega
  (try simp only [fAsg, fPar, fPar2, fPar3, fIfS, fRet, fRetN, fDrop, fNil, fBreak, fCont, fAugN, fAugF, fApp, fRaise, mvL, moved, eVar, eVal, eOp2, eOp1, eTup, eLst, eNew, eIf, eAnd2, eOr2, eNot1, eFrz, asD, asB, eFld, eCall, eMake, eMeth, eSl, oNone, oSome, aNil, aCons, lNil, lCons, gNm, gFd, gIx, gTp, gsNil, gsCons, tTru, tBool, tAnd2, tOr2, tNot1, tYesD, addM_i, addM_s, addM_t, addM_oo, addM_bo, addM_ob, addM_lo, addM_ol, addM_ll, subM_i, mulM_i, mulM_o, fdivM_i, modM_i, intAddM_i, cmpM_i, min2M_i, max2M_i, negM_i, absM_i, toIntM_i, isnM_any, isN, eqM_i, eqM_b, eqM_s, eqM_t, ixM_t, ixM_o, ixM_l, ixM_k, ixM_r, ixM_b, truM_b, truM_i, truM_n, truM_t, truM_o, lenM, sumM, tupM, listM, slM, lget, lgetR, lput, iRng1D, iRng2D, iSeq, itOf, List.map_cons, List.map_nil, List.replicate_zero, List.replicate_succ, List.cons_append, List.nil_append, List.append_nil, List.getElem?_cons_succ, List.getElem?_cons_zero, List.set_cons_zero, List.set_cons_succ, List.length_cons, List.length_nil, Nat.reduceAdd, Nat.reduceSub, Nat.reduceLT, Nat.reduceLeDiff, Nat.sub_self, decide_eq_true_eq, sz0, sz1, sz2, sz3, sz4, sz5, sz6, sz7, sz8, ok_int, ok_bl, ok_non, ok_tup, ok_lst, eqb_int, eqb_bl, at0, at1, at2, at3, at4, at5, beq_iff_eq, ite_true, ite_false, Bool.false_eq_true, if_true, if_false, true_and, and_true, false_and, Bool.not_true, Bool.not_false, em, o_Haste, lk_Haste__line, pi_Haste__line, pt_Haste__line, fk_Haste__line T, lk_Haste__now, pi_Haste__now, pt_Haste__now, fk_Haste__now T, lk_Haste__many, pi_Haste__many, pt_Haste__many, fk_Haste__many T, lk_Haste__things, pi_Haste__things, pt_Haste__things, fk_Haste__things T, lk_Haste__late, pi_Haste__late, pt_Haste__late, fk_Haste__late T, lm_Haste_now, tb_Haste_now, lm_Haste_put, tb_Haste_put, lm_Haste_waiting, tb_Haste_waiting, lm_Haste_late, tb_Haste_late, lm_Haste_overdue, tb_Haste_overdue, lm_Haste_tick, tb_Haste_tick])
  refine now_ T em ?_
  (try simp only [fAsg, fPar, fPar2, fPar3, fIfS, fRet, fRetN, fDrop, fNil, fBreak, fCont, fAugN, fAugF, fApp, fRaise, mvL, moved, eVar, eVal, eOp2, eOp1, eTup, eLst, eNew, eIf, eAnd2, eOr2, eNot1, eFrz, asD, asB, eFld, eCall, eMake, eMeth, eSl, oNone, oSome, aNil, aCons, lNil, lCons, gNm, gFd, gIx, gTp, gsNil, gsCons, tTru, tBool, tAnd2, tOr2, tNot1, tYesD, addM_i, addM_s, addM_t, addM_oo, addM_bo, addM_ob, addM_lo, addM_ol, addM_ll, subM_i, mulM_i, mulM_o, fdivM_i, modM_i, intAddM_i, cmpM_i, min2M_i, max2M_i, negM_i, absM_i, toIntM_i, isnM_any, isN, eqM_i, eqM_b, eqM_s, eqM_t, ixM_t, ixM_o, ixM_l, ixM_k, ixM_r, ixM_b, truM_b, truM_i, truM_n, truM_t, truM_o, lenM, sumM, tupM, listM, slM, lget, lgetR, lput, iRng1D, iRng2D, iSeq, itOf, List.map_cons, List.map_nil, List.replicate_zero, List.replicate_succ, List.cons_append, List.nil_append, List.append_nil, List.getElem?_cons_succ, List.getElem?_cons_zero, List.set_cons_zero, List.set_cons_succ, List.length_cons, List.length_nil, Nat.reduceAdd, Nat.reduceSub, Nat.reduceLT, Nat.reduceLeDiff, Nat.sub_self, decide_eq_true_eq, sz0, sz1, sz2, sz3, sz4, sz5, sz6, sz7, sz8, ok_int, ok_bl, ok_non, ok_tup, ok_lst, eqb_int, eqb_bl, at0, at1, at2, at3, at4, at5, beq_iff_eq, ite_true, ite_false, Bool.false_eq_true, if_true, if_false, true_and, and_true, false_and, Bool.not_true, Bool.not_false])
  refine same_i' (small (by omega) (by omega)) ?_
  (try simp only [fAsg, fPar, fPar2, fPar3, fIfS, fRet, fRetN, fDrop, fNil, fBreak, fCont, fAugN, fAugF, fApp, fRaise, mvL, moved, eVar, eVal, eOp2, eOp1, eTup, eLst, eNew, eIf, eAnd2, eOr2, eNot1, eFrz, asD, asB, eFld, eCall, eMake, eMeth, eSl, oNone, oSome, aNil, aCons, lNil, lCons, gNm, gFd, gIx, gTp, gsNil, gsCons, tTru, tBool, tAnd2, tOr2, tNot1, tYesD, addM_i, addM_s, addM_t, addM_oo, addM_bo, addM_ob, addM_lo, addM_ol, addM_ll, subM_i, mulM_i, mulM_o, fdivM_i, modM_i, intAddM_i, cmpM_i, min2M_i, max2M_i, negM_i, absM_i, toIntM_i, isnM_any, isN, eqM_i, eqM_b, eqM_s, eqM_t, ixM_t, ixM_o, ixM_l, ixM_k, ixM_r, ixM_b, truM_b, truM_i, truM_n, truM_t, truM_o, lenM, sumM, tupM, listM, slM, lget, lgetR, lput, iRng1D, iRng2D, iSeq, itOf, List.map_cons, List.map_nil, List.replicate_zero, List.replicate_succ, List.cons_append, List.nil_append, List.append_nil, List.getElem?_cons_succ, List.getElem?_cons_zero, List.set_cons_zero, List.set_cons_succ, List.length_cons, List.length_nil, Nat.reduceAdd, Nat.reduceSub, Nat.reduceLT, Nat.reduceLeDiff, Nat.sub_self, decide_eq_true_eq, sz0, sz1, sz2, sz3, sz4, sz5, sz6, sz7, sz8, ok_int, ok_bl, ok_non, ok_tup, ok_lst, eqb_int, eqb_bl, at0, at1, at2, at3, at4, at5, beq_iff_eq, ite_true, ite_false, Bool.false_eq_true, if_true, if_false, true_and, and_true, false_and, Bool.not_true, Bool.not_false])
  -- the state
  refine fCons.go ?_
  (try simp only [fAsg, fPar, fPar2, fPar3, fIfS, fRet, fRetN, fDrop, fNil, fBreak, fCont, fAugN, fAugF, fApp, fRaise, mvL, moved, eVar, eVal, eOp2, eOp1, eTup, eLst, eNew, eIf, eAnd2, eOr2, eNot1, eFrz, asD, asB, eFld, eCall, eMake, eMeth, eSl, oNone, oSome, aNil, aCons, lNil, lCons, gNm, gFd, gIx, gTp, gsNil, gsCons, tTru, tBool, tAnd2, tOr2, tNot1, tYesD, addM_i, addM_s, addM_t, addM_oo, addM_bo, addM_ob, addM_lo, addM_ol, addM_ll, subM_i, mulM_i, mulM_o, fdivM_i, modM_i, intAddM_i, cmpM_i, min2M_i, max2M_i, negM_i, absM_i, toIntM_i, isnM_any, isN, eqM_i, eqM_b, eqM_s, eqM_t, ixM_t, ixM_o, ixM_l, ixM_k, ixM_r, ixM_b, truM_b, truM_i, truM_n, truM_t, truM_o, lenM, sumM, tupM, listM, slM, lget, lgetR, lput, iRng1D, iRng2D, iSeq, itOf, List.map_cons, List.map_nil, List.replicate_zero, List.replicate_succ, List.cons_append, List.nil_append, List.append_nil, List.getElem?_cons_succ, List.getElem?_cons_zero, List.set_cons_zero, List.set_cons_succ, List.length_cons, List.length_nil, Nat.reduceAdd, Nat.reduceSub, Nat.reduceLT, Nat.reduceLeDiff, Nat.sub_self, decide_eq_true_eq, sz0, sz1, sz2, sz3, sz4, sz5, sz6, sz7, sz8, ok_int, ok_bl, ok_non, ok_tup, ok_lst, eqb_int, eqb_bl, at0, at1, at2, at3, at4, at5, beq_iff_eq, ite_true, ite_false, Bool.false_eq_true, if_true, if_false, true_and, and_true, false_and, Bool.not_true, Bool.not_false, List.length_map])
  rw [eLc_eq]
  (try simp only [fAsg, fPar, fPar2, fPar3, fIfS, fRet, fRetN, fDrop, fNil, fBreak, fCont, fAugN, fAugF, fApp, fRaise, mvL, moved, eVar, eVal, eOp2, eOp1, eTup, eLst, eNew, eIf, eAnd2, eOr2, eNot1, eFrz, asD, asB, eFld, eCall, eMake, eMeth, eSl, oNone, oSome, aNil, aCons, lNil, lCons, gNm, gFd, gIx, gTp, gsNil, gsCons, tTru, tBool, tAnd2, tOr2, tNot1, tYesD, addM_i, addM_s, addM_t, addM_oo, addM_bo, addM_ob, addM_lo, addM_ol, addM_ll, subM_i, mulM_i, mulM_o, fdivM_i, modM_i, intAddM_i, cmpM_i, min2M_i, max2M_i, negM_i, absM_i, toIntM_i, isnM_any, isN, eqM_i, eqM_b, eqM_s, eqM_t, ixM_t, ixM_o, ixM_l, ixM_k, ixM_r, ixM_b, truM_b, truM_i, truM_n, truM_t, truM_o, lenM, sumM, tupM, listM, slM, lget, lgetR, lput, iRng1D, iRng2D, iSeq, itOf, List.map_cons, List.map_nil, List.replicate_zero, List.replicate_succ, List.cons_append, List.nil_append, List.append_nil, List.getElem?_cons_succ, List.getElem?_cons_zero, List.set_cons_zero, List.set_cons_succ, List.length_cons, List.length_nil, Nat.reduceAdd, Nat.reduceSub, Nat.reduceLT, Nat.reduceLeDiff, Nat.sub_self, decide_eq_true_eq, sz0, sz1, sz2, sz3, sz4, sz5, sz6, sz7, sz8, ok_int, ok_bl, ok_non, ok_tup, ok_lst, eqb_int, eqb_bl, at0, at1, at2, at3, at4, at5, beq_iff_eq, ite_true, ite_false, Bool.false_eq_true, if_true, if_false, true_and, and_true, false_and, Bool.not_true, Bool.not_false, Option.isSome_some])
  refine lc_liv (ds := (oc'.drop l.toNat).map oD) (fun d => match d with | .tup [.int x, y] => if x < (i : Int) + 1 then some (.tup [.int x, y]) else none | _ => none) (sz (by rw [List.length_map, List.length_drop]; omega)) ?_ (fun d hd => ?_) fun _ => ?_
  · (try simp only [fAsg, fPar, fPar2, fPar3, fIfS, fRet, fRetN, fDrop, fNil, fBreak, fCont, fAugN, fAugF, fApp, fRaise, mvL, moved, eVar, eVal, eOp2, eOp1, eTup, eLst, eNew, eIf, eAnd2, eOr2, eNot1, eFrz, asD, asB, eFld, eCall, eMake, eMeth, eSl, oNone, oSome, aNil, aCons, lNil, lCons, gNm, gFd, gIx, gTp, gsNil, gsCons, tTru, tBool, tAnd2, tOr2, tNot1, tYesD, addM_i, addM_s, addM_t, addM_oo, addM_bo, addM_ob, addM_lo, addM_ol, addM_ll, subM_i, mulM_i, mulM_o, fdivM_i, modM_i, intAddM_i, cmpM_i, min2M_i, max2M_i, negM_i, absM_i, toIntM_i, isnM_any, isN, eqM_i, eqM_b, eqM_s, eqM_t, ixM_t, ixM_o, ixM_l, ixM_k, ixM_r, ixM_b, truM_b, truM_i, truM_n, truM_t, truM_o, lenM, sumM, tupM, listM, slM, lget, lgetR, lput, iRng1D, iRng2D, iSeq, itOf, List.map_cons, List.map_nil, List.replicate_zero, List.replicate_succ, List.cons_append, List.nil_append, List.append_nil, List.getElem?_cons_succ, List.getElem?_cons_zero, List.set_cons_zero, List.set_cons_succ, List.length_cons, List.length_nil, Nat.reduceAdd, Nat.reduceSub, Nat.reduceLT, Nat.reduceLeDiff, Nat.sub_self, decide_eq_true_eq, sz0, sz1, sz2, sz3, sz4, sz5, sz6, sz7, sz8, ok_int, ok_bl, ok_non, ok_tup, ok_lst, eqb_int, eqb_bl, at0, at1, at2, at3, at4, at5, beq_iff_eq, ite_true, ite_false, Bool.false_eq_true, if_true, if_false, true_and, and_true, false_and, Bool.not_true, Bool.not_false, wipeD])
  · obtain ⟨p, _, rfl⟩ := List.mem_map.mp hd
    refine ⟨_, rfl, fun R hR => ?_⟩
    have hR' : R (if p.1 < (i : Int) + 1 then some (oD p) else none) := hR
    have oDe : oD p = .tup [.int p.1, .int p.2] := rfl
    rw [oDe] at hR' ⊢
    (try simp only [fAsg, fPar, fPar2, fPar3, fIfS, fRet, fRetN, fDrop, fNil, fBreak, fCont, fAugN, fAugF, fApp, fRaise, mvL, moved, eVar, eVal, eOp2, eOp1, eTup, eLst, eNew, eIf, eAnd2, eOr2, eNot1, eFrz, asD, asB, eFld, eCall, eMake, eMeth, eSl, oNone, oSome, aNil, aCons, lNil, lCons, gNm, gFd, gIx, gTp, gsNil, gsCons, tTru, tBool, tAnd2, tOr2, tNot1, tYesD, addM_i, addM_s, addM_t, addM_oo, addM_bo, addM_ob, addM_lo, addM_ol, addM_ll, subM_i, mulM_i, mulM_o, fdivM_i, modM_i, intAddM_i, cmpM_i, min2M_i, max2M_i, negM_i, absM_i, toIntM_i, isnM_any, isN, eqM_i, eqM_b, eqM_s, eqM_t, ixM_t, ixM_o, ixM_l, ixM_k, ixM_r, ixM_b, truM_b, truM_i, truM_n, truM_t, truM_o, lenM, sumM, tupM, listM, slM, lget, lgetR, lput, iRng1D, iRng2D, iSeq, itOf, List.map_cons, List.map_nil, List.replicate_zero, List.replicate_succ, List.cons_append, List.nil_append, List.append_nil, List.getElem?_cons_succ, List.getElem?_cons_zero, List.set_cons_zero, List.set_cons_succ, List.length_cons, List.length_nil, Nat.reduceAdd, Nat.reduceSub, Nat.reduceLT, Nat.reduceLeDiff, Nat.sub_self, decide_eq_true_eq, sz0, sz1, sz2, sz3, sz4, sz5, sz6, sz7, sz8, ok_int, ok_bl, ok_non, ok_tup, ok_lst, eqb_int, eqb_bl, at0, at1, at2, at3, at4, at5, beq_iff_eq, ite_true, ite_false, Bool.false_eq_true, if_true, if_false, true_and, and_true, false_and, Bool.not_true, Bool.not_false, wipeD])
    by_cases h : p.1 < (i : Int) + 1
    · rw [if_pos h] at hR' ⊢
      exact hR'
    · rw [if_neg h] at hR' ⊢
      exact hR'
  have fm : ∀ q : List Oc, ((q.map oD).filterMap fun d => match d with | .tup [.int x, y] => if x < (i : Int) + 1 then some (.tup [.int x, y]) else none | _ => none) = (q.filter fun o => decide (o.1 < (i : Int) + 1)).map oD := fun q => by
    induction q with
    | nil => rfl
    | cons o q ih =>
      rw [List.map_cons, List.filterMap_cons, List.filter_cons, ih]
      by_cases h : o.1 < (i : Int) + 1 <;> simp [oD, rowD, prL, h]
  rw [fm]
  have E1 : ((oc'.drop l.toNat).length : Int) = ((kpt l ts').map fun t => t.2.2).sum := by rw [e0, cut2, len_expd (ok_pos okK)]
  have E2 : late + cnt i (oc'.take l.toNat) = late + lateOf i (fnd l ts') := by rw [e0, cut1, cnt_expd _ (ok_pos okF)]; rfl
  have E3 : (((oc'.drop l.toNat).filter fun o => decide (o.1 < (i : Int) + 1)).length : Int) = ((kpt l ts').map fun t => if t.1 < (i : Int) + 1 then t.2.2 else 0).sum := by
    have := cnt_expd ((i : Int) + 1) (ok_pos okK)
    rw [← cut2, ← e0] at this
    exact this
  have B2 : 0 ≤ cnt i (oc'.take l.toNat) ∧ cnt i (oc'.take l.toNat) ≤ 9 := by
    unfold cnt
    have h1 := List.length_filter_le (fun o : Oc => decide (o.1 < (i : Int))) (oc'.take l.toNat)
    rw [List.length_take] at h1
    omega
  have B3 := List.length_filter_le (fun o : Oc => decide (o.1 < (i : Int) + 1)) (oc'.drop l.toNat)
  have B4 : (oc'.drop l.toNat).length ≤ 1000 := by rw [List.length_drop]; omega
  (try simp only [fAsg, fPar, fPar2, fPar3, fIfS, fRet, fRetN, fDrop, fNil, fBreak, fCont, fAugN, fAugF, fApp, fRaise, mvL, moved, eVar, eVal, eOp2, eOp1, eTup, eLst, eNew, eIf, eAnd2, eOr2, eNot1, eFrz, asD, asB, eFld, eCall, eMake, eMeth, eSl, oNone, oSome, aNil, aCons, lNil, lCons, gNm, gFd, gIx, gTp, gsNil, gsCons, tTru, tBool, tAnd2, tOr2, tNot1, tYesD, addM_i, addM_s, addM_t, addM_oo, addM_bo, addM_ob, addM_lo, addM_ol, addM_ll, subM_i, mulM_i, mulM_o, fdivM_i, modM_i, intAddM_i, cmpM_i, min2M_i, max2M_i, negM_i, absM_i, toIntM_i, isnM_any, isN, eqM_i, eqM_b, eqM_s, eqM_t, ixM_t, ixM_o, ixM_l, ixM_k, ixM_r, ixM_b, truM_b, truM_i, truM_n, truM_t, truM_o, lenM, sumM, tupM, listM, slM, lget, lgetR, lput, iRng1D, iRng2D, iSeq, itOf, List.map_cons, List.map_nil, List.replicate_zero, List.replicate_succ, List.cons_append, List.nil_append, List.append_nil, List.getElem?_cons_succ, List.getElem?_cons_zero, List.set_cons_zero, List.set_cons_succ, List.length_cons, List.length_nil, Nat.reduceAdd, Nat.reduceSub, Nat.reduceLT, Nat.reduceLeDiff, Nat.sub_self, decide_eq_true_eq, sz0, sz1, sz2, sz3, sz4, sz5, sz6, sz7, sz8, ok_int, ok_bl, ok_non, ok_tup, ok_lst, eqb_int, eqb_bl, at0, at1, at2, at3, at4, at5, beq_iff_eq, ite_true, ite_false, Bool.false_eq_true, if_true, if_false, true_and, and_true, false_and, Bool.not_true, Bool.not_false, List.length_map])
  refine fCons.go ?_
  (try simp only [fAsg, fPar, fPar2, fPar3, fIfS, fRet, fRetN, fDrop, fNil, fBreak, fCont, fAugN, fAugF, fApp, fRaise, mvL, moved, eVar, eVal, eOp2, eOp1, eTup, eLst, eNew, eIf, eAnd2, eOr2, eNot1, eFrz, asD, asB, eFld, eCall, eMake, eMeth, eSl, oNone, oSome, aNil, aCons, lNil, lCons, gNm, gFd, gIx, gTp, gsNil, gsCons, tTru, tBool, tAnd2, tOr2, tNot1, tYesD, addM_i, addM_s, addM_t, addM_oo, addM_bo, addM_ob, addM_lo, addM_ol, addM_ll, subM_i, mulM_i, mulM_o, fdivM_i, modM_i, intAddM_i, cmpM_i, min2M_i, max2M_i, negM_i, absM_i, toIntM_i, isnM_any, isN, eqM_i, eqM_b, eqM_s, eqM_t, ixM_t, ixM_o, ixM_l, ixM_k, ixM_r, ixM_b, truM_b, truM_i, truM_n, truM_t, truM_o, lenM, sumM, tupM, listM, slM, lget, lgetR, lput, iRng1D, iRng2D, iSeq, itOf, List.map_cons, List.map_nil, List.replicate_zero, List.replicate_succ, List.cons_append, List.nil_append, List.append_nil, List.getElem?_cons_succ, List.getElem?_cons_zero, List.set_cons_zero, List.set_cons_succ, List.length_cons, List.length_nil, Nat.reduceAdd, Nat.reduceSub, Nat.reduceLT, Nat.reduceLeDiff, Nat.sub_self, decide_eq_true_eq, sz0, sz1, sz2, sz3, sz4, sz5, sz6, sz7, sz8, ok_int, ok_bl, ok_non, ok_tup, ok_lst, eqb_int, eqb_bl, at0, at1, at2, at3, at4, at5, beq_iff_eq, ite_true, ite_false, Bool.false_eq_true, if_true, if_false, true_and, and_true, false_and, Bool.not_true, Bool.not_false, em, o_Haste, lk_Haste__line, pi_Haste__line, pt_Haste__line, fk_Haste__line T, lk_Haste__now, pi_Haste__now, pt_Haste__now, fk_Haste__now T, lk_Haste__many, pi_Haste__many, pt_Haste__many, fk_Haste__many T, lk_Haste__things, pi_Haste__things, pt_Haste__things, fk_Haste__things T, lk_Haste__late, pi_Haste__late, pt_Haste__late, fk_Haste__late T, lm_Haste_now, tb_Haste_now, lm_Haste_put, tb_Haste_put, lm_Haste_waiting, tb_Haste_waiting, lm_Haste_late, tb_Haste_late, lm_Haste_overdue, tb_Haste_overdue, lm_Haste_tick, tb_Haste_tick])
  refine waiting_ T em (by omega) ?_
  rw [← E1]
  (try simp only [fAsg, fPar, fPar2, fPar3, fIfS, fRet, fRetN, fDrop, fNil, fBreak, fCont, fAugN, fAugF, fApp, fRaise, mvL, moved, eVar, eVal, eOp2, eOp1, eTup, eLst, eNew, eIf, eAnd2, eOr2, eNot1, eFrz, asD, asB, eFld, eCall, eMake, eMeth, eSl, oNone, oSome, aNil, aCons, lNil, lCons, gNm, gFd, gIx, gTp, gsNil, gsCons, tTru, tBool, tAnd2, tOr2, tNot1, tYesD, addM_i, addM_s, addM_t, addM_oo, addM_bo, addM_ob, addM_lo, addM_ol, addM_ll, subM_i, mulM_i, mulM_o, fdivM_i, modM_i, intAddM_i, cmpM_i, min2M_i, max2M_i, negM_i, absM_i, toIntM_i, isnM_any, isN, eqM_i, eqM_b, eqM_s, eqM_t, ixM_t, ixM_o, ixM_l, ixM_k, ixM_r, ixM_b, truM_b, truM_i, truM_n, truM_t, truM_o, lenM, sumM, tupM, listM, slM, lget, lgetR, lput, iRng1D, iRng2D, iSeq, itOf, List.map_cons, List.map_nil, List.replicate_zero, List.replicate_succ, List.cons_append, List.nil_append, List.append_nil, List.getElem?_cons_succ, List.getElem?_cons_zero, List.set_cons_zero, List.set_cons_succ, List.length_cons, List.length_nil, Nat.reduceAdd, Nat.reduceSub, Nat.reduceLT, Nat.reduceLeDiff, Nat.sub_self, decide_eq_true_eq, sz0, sz1, sz2, sz3, sz4, sz5, sz6, sz7, sz8, ok_int, ok_bl, ok_non, ok_tup, ok_lst, eqb_int, eqb_bl, at0, at1, at2, at3, at4, at5, beq_iff_eq, ite_true, ite_false, Bool.false_eq_true, if_true, if_false, true_and, and_true, false_and, Bool.not_true, Bool.not_false, em, o_Haste, lk_Haste__line, pi_Haste__line, pt_Haste__line, fk_Haste__line T, lk_Haste__now, pi_Haste__now, pt_Haste__now, fk_Haste__now T, lk_Haste__many, pi_Haste__many, pt_Haste__many, fk_Haste__many T, lk_Haste__things, pi_Haste__things, pt_Haste__things, fk_Haste__things T, lk_Haste__late, pi_Haste__late, pt_Haste__late, fk_Haste__late T, lm_Haste_now, tb_Haste_now, lm_Haste_put, tb_Haste_put, lm_Haste_waiting, tb_Haste_waiting, lm_Haste_late, tb_Haste_late, lm_Haste_overdue, tb_Haste_overdue, lm_Haste_tick, tb_Haste_tick])
  refine late_ T em ?_
  rw [← E2]
  (try simp only [fAsg, fPar, fPar2, fPar3, fIfS, fRet, fRetN, fDrop, fNil, fBreak, fCont, fAugN, fAugF, fApp, fRaise, mvL, moved, eVar, eVal, eOp2, eOp1, eTup, eLst, eNew, eIf, eAnd2, eOr2, eNot1, eFrz, asD, asB, eFld, eCall, eMake, eMeth, eSl, oNone, oSome, aNil, aCons, lNil, lCons, gNm, gFd, gIx, gTp, gsNil, gsCons, tTru, tBool, tAnd2, tOr2, tNot1, tYesD, addM_i, addM_s, addM_t, addM_oo, addM_bo, addM_ob, addM_lo, addM_ol, addM_ll, subM_i, mulM_i, mulM_o, fdivM_i, modM_i, intAddM_i, cmpM_i, min2M_i, max2M_i, negM_i, absM_i, toIntM_i, isnM_any, isN, eqM_i, eqM_b, eqM_s, eqM_t, ixM_t, ixM_o, ixM_l, ixM_k, ixM_r, ixM_b, truM_b, truM_i, truM_n, truM_t, truM_o, lenM, sumM, tupM, listM, slM, lget, lgetR, lput, iRng1D, iRng2D, iSeq, itOf, List.map_cons, List.map_nil, List.replicate_zero, List.replicate_succ, List.cons_append, List.nil_append, List.append_nil, List.getElem?_cons_succ, List.getElem?_cons_zero, List.set_cons_zero, List.set_cons_succ, List.length_cons, List.length_nil, Nat.reduceAdd, Nat.reduceSub, Nat.reduceLT, Nat.reduceLeDiff, Nat.sub_self, decide_eq_true_eq, sz0, sz1, sz2, sz3, sz4, sz5, sz6, sz7, sz8, ok_int, ok_bl, ok_non, ok_tup, ok_lst, eqb_int, eqb_bl, at0, at1, at2, at3, at4, at5, beq_iff_eq, ite_true, ite_false, Bool.false_eq_true, if_true, if_false, true_and, and_true, false_and, Bool.not_true, Bool.not_false, em, o_Haste, lk_Haste__line, pi_Haste__line, pt_Haste__line, fk_Haste__line T, lk_Haste__now, pi_Haste__now, pt_Haste__now, fk_Haste__now T, lk_Haste__many, pi_Haste__many, pt_Haste__many, fk_Haste__many T, lk_Haste__things, pi_Haste__things, pt_Haste__things, fk_Haste__things T, lk_Haste__late, pi_Haste__late, pt_Haste__late, fk_Haste__late T, lm_Haste_now, tb_Haste_now, lm_Haste_put, tb_Haste_put, lm_Haste_waiting, tb_Haste_waiting, lm_Haste_late, tb_Haste_late, lm_Haste_overdue, tb_Haste_overdue, lm_Haste_tick, tb_Haste_tick])
  refine overdue_ T em (by omega) ?_
  rw [← E3]
  (try simp only [fAsg, fPar, fPar2, fPar3, fIfS, fRet, fRetN, fDrop, fNil, fBreak, fCont, fAugN, fAugF, fApp, fRaise, mvL, moved, eVar, eVal, eOp2, eOp1, eTup, eLst, eNew, eIf, eAnd2, eOr2, eNot1, eFrz, asD, asB, eFld, eCall, eMake, eMeth, eSl, oNone, oSome, aNil, aCons, lNil, lCons, gNm, gFd, gIx, gTp, gsNil, gsCons, tTru, tBool, tAnd2, tOr2, tNot1, tYesD, addM_i, addM_s, addM_t, addM_oo, addM_bo, addM_ob, addM_lo, addM_ol, addM_ll, subM_i, mulM_i, mulM_o, fdivM_i, modM_i, intAddM_i, cmpM_i, min2M_i, max2M_i, negM_i, absM_i, toIntM_i, isnM_any, isN, eqM_i, eqM_b, eqM_s, eqM_t, ixM_t, ixM_o, ixM_l, ixM_k, ixM_r, ixM_b, truM_b, truM_i, truM_n, truM_t, truM_o, lenM, sumM, tupM, listM, slM, lget, lgetR, lput, iRng1D, iRng2D, iSeq, itOf, List.map_cons, List.map_nil, List.replicate_zero, List.replicate_succ, List.cons_append, List.nil_append, List.append_nil, List.getElem?_cons_succ, List.getElem?_cons_zero, List.set_cons_zero, List.set_cons_succ, List.length_cons, List.length_nil, Nat.reduceAdd, Nat.reduceSub, Nat.reduceLT, Nat.reduceLeDiff, Nat.sub_self, decide_eq_true_eq, sz0, sz1, sz2, sz3, sz4, sz5, sz6, sz7, sz8, ok_int, ok_bl, ok_non, ok_tup, ok_lst, eqb_int, eqb_bl, at0, at1, at2, at3, at4, at5, beq_iff_eq, ite_true, ite_false, Bool.false_eq_true, if_true, if_false, true_and, and_true, false_and, Bool.not_true, Bool.not_false])
  refine same_t' ?_ ?_ (by simp [D.nd, D.nds]) ?_
  · exact ok_row (n := 59) [_, _, _]
  · simp only [D.small, D.smalls, Bool.and_true, Bool.and_eq_true, decide_eq_true_eq]
    omega
  (try simp only [fAsg, fPar, fPar2, fPar3, fIfS, fRet, fRetN, fDrop, fNil, fBreak, fCont, fAugN, fAugF, fApp, fRaise, mvL, moved, eVar, eVal, eOp2, eOp1, eTup, eLst, eNew, eIf, eAnd2, eOr2, eNot1, eFrz, asD, asB, eFld, eCall, eMake, eMeth, eSl, oNone, oSome, aNil, aCons, lNil, lCons, gNm, gFd, gIx, gTp, gsNil, gsCons, tTru, tBool, tAnd2, tOr2, tNot1, tYesD, addM_i, addM_s, addM_t, addM_oo, addM_bo, addM_ob, addM_lo, addM_ol, addM_ll, subM_i, mulM_i, mulM_o, fdivM_i, modM_i, intAddM_i, cmpM_i, min2M_i, max2M_i, negM_i, absM_i, toIntM_i, isnM_any, isN, eqM_i, eqM_b, eqM_s, eqM_t, ixM_t, ixM_o, ixM_l, ixM_k, ixM_r, ixM_b, truM_b, truM_i, truM_n, truM_t, truM_o, lenM, sumM, tupM, listM, slM, lget, lgetR, lput, iRng1D, iRng2D, iSeq, itOf, List.map_cons, List.map_nil, List.replicate_zero, List.replicate_succ, List.cons_append, List.nil_append, List.append_nil, List.getElem?_cons_succ, List.getElem?_cons_zero, List.set_cons_zero, List.set_cons_succ, List.length_cons, List.length_nil, Nat.reduceAdd, Nat.reduceSub, Nat.reduceLT, Nat.reduceLeDiff, Nat.sub_self, decide_eq_true_eq, sz0, sz1, sz2, sz3, sz4, sz5, sz6, sz7, sz8, ok_int, ok_bl, ok_non, ok_tup, ok_lst, eqb_int, eqb_bl, at0, at1, at2, at3, at4, at5, beq_iff_eq, ite_true, ite_false, Bool.false_eq_true, if_true, if_false, true_and, and_true, false_and, Bool.not_true, Bool.not_false])
  intro _
  rw [eqM_pd (x := .lst ((oc'.drop l.toNat).map oD)) (y := .lst []) (by simp [pd, lget]) rfl (fun s e => by cases e), eqb_nil]
  refine ⟨⟨?_, rfl⟩, ?_⟩
  · rw [ok_lst, List.all_map, List.all_eq_true]
    exact fun x _ => ok_row (n := 62) [x.1, x.2]
  have fin : ∃ y9, Q1 a zs l n (i + 1) 0 y9 [some (.val (.kls (zs.map D.int))), some (.val (.ref 0)), y2, some (.val (.int l)), some (.val (.ref n)), some (.own adR ((oc'.drop l.toNat).map oD)), some (.val (.int (late + cnt i (oc'.take l.toNat)))), some (.val (.int many)), some (.val (.int (whole + ((oc'.take l.toNat).length : Int)))), some (.val (.int i)), y10, y11, y12, some (.own adG ((oc'.take l.toNat).map oD)), some (.own adE ((fnd l ts').map nD)), y15,
      some (.val (.tup [.int ((oc'.drop l.toNat).length : Int), .int (late + cnt i (oc'.take l.toNat)), .int (((oc'.drop l.toNat).filter fun o => decide (o.1 < (i : Int) + 1)).length : Int)]))] μ := by
    refine ⟨iv i, y2, y10, y11, y12, _, _, y15, _, adR, adK, kpt l ts', oc'.drop l.toNat, late + cnt i (oc'.take l.toNat), many, whole + ((oc'.take l.toNat).length : Int), rfl, hd.oth o (Ne.symm hn), ?_, ?_, okK, (kpt_sub ts' l).nodup nd', by omega, m0, by omega, by omega, by omega, ?_⟩
    · rw [em, E2]
      rfl
    · rw [e0, cut2]
    · have : ((oc'.take l.toNat).length : Int) ≤ l := by rw [List.length_take]; omega
      have e : l * ((i + 1 : Nat) : Int) = l * i + l := by rw [Int.natCast_add, Int.mul_add]; simp
      omega
  cases hk : (oc'.drop l.toNat).map oD with
  | nil =>
    rw [hk] at fin
    (try simp only [fAsg, fPar, fPar2, fPar3, fIfS, fRet, fRetN, fDrop, fNil, fBreak, fCont, fAugN, fAugF, fApp, fRaise, mvL, moved, eVar, eVal, eOp2, eOp1, eTup, eLst, eNew, eIf, eAnd2, eOr2, eNot1, eFrz, asD, asB, eFld, eCall, eMake, eMeth, eSl, oNone, oSome, aNil, aCons, lNil, lCons, gNm, gFd, gIx, gTp, gsNil, gsCons, tTru, tBool, tAnd2, tOr2, tNot1, tYesD, addM_i, addM_s, addM_t, addM_oo, addM_bo, addM_ob, addM_lo, addM_ol, addM_ll, subM_i, mulM_i, mulM_o, fdivM_i, modM_i, intAddM_i, cmpM_i, min2M_i, max2M_i, negM_i, absM_i, toIntM_i, isnM_any, isN, eqM_i, eqM_b, eqM_s, eqM_t, ixM_t, ixM_o, ixM_l, ixM_k, ixM_r, ixM_b, truM_b, truM_i, truM_n, truM_t, truM_o, lenM, sumM, tupM, listM, slM, lget, lgetR, lput, iRng1D, iRng2D, iSeq, itOf, List.map_cons, List.map_nil, List.replicate_zero, List.replicate_succ, List.cons_append, List.nil_append, List.append_nil, List.getElem?_cons_succ, List.getElem?_cons_zero, List.set_cons_zero, List.set_cons_succ, List.length_cons, List.length_nil, Nat.reduceAdd, Nat.reduceSub, Nat.reduceLT, Nat.reduceLeDiff, Nat.sub_self, decide_eq_true_eq, sz0, sz1, sz2, sz3, sz4, sz5, sz6, sz7, sz8, ok_int, ok_bl, ok_non, ok_tup, ok_lst, eqb_int, eqb_bl, at0, at1, at2, at3, at4, at5, beq_iff_eq, ite_true, ite_false, Bool.false_eq_true, if_true, if_false, true_and, and_true, false_and, Bool.not_true, Bool.not_false, List.isEmpty_nil])
    exact fin
  | cons x r =>
    have full : ((oc'.take l.toNat).length : Int) = l := by
      rcases ck with ck | ck
      · rw [e0, cut2, ck] at hk
        simp [expd] at hk
      · rw [e0, cut1]
        exact ck
    rw [hk] at fin
    (try simp only [fAsg, fPar, fPar2, fPar3, fIfS, fRet, fRetN, fDrop, fNil, fBreak, fCont, fAugN, fAugF, fApp, fRaise, mvL, moved, eVar, eVal, eOp2, eOp1, eTup, eLst, eNew, eIf, eAnd2, eOr2, eNot1, eFrz, asD, asB, eFld, eCall, eMake, eMeth, eSl, oNone, oSome, aNil, aCons, lNil, lCons, gNm, gFd, gIx, gTp, gsNil, gsCons, tTru, tBool, tAnd2, tOr2, tNot1, tYesD, addM_i, addM_s, addM_t, addM_oo, addM_bo, addM_ob, addM_lo, addM_ol, addM_ll, subM_i, mulM_i, mulM_o, fdivM_i, modM_i, intAddM_i, cmpM_i, min2M_i, max2M_i, negM_i, absM_i, toIntM_i, isnM_any, isN, eqM_i, eqM_b, eqM_s, eqM_t, ixM_t, ixM_o, ixM_l, ixM_k, ixM_r, ixM_b, truM_b, truM_i, truM_n, truM_t, truM_o, lenM, sumM, tupM, listM, slM, lget, lgetR, lput, iRng1D, iRng2D, iSeq, itOf, List.map_cons, List.map_nil, List.replicate_zero, List.replicate_succ, List.cons_append, List.nil_append, List.append_nil, List.getElem?_cons_succ, List.getElem?_cons_zero, List.set_cons_zero, List.set_cons_succ, List.length_cons, List.length_nil, Nat.reduceAdd, Nat.reduceSub, Nat.reduceLT, Nat.reduceLeDiff, Nat.sub_self, decide_eq_true_eq, sz0, sz1, sz2, sz3, sz4, sz5, sz6, sz7, sz8, ok_int, ok_bl, ok_non, ok_tup, ok_lst, eqb_int, eqb_bl, at0, at1, at2, at3, at4, at5, beq_iff_eq, ite_true, ite_false, Bool.false_eq_true, if_true, if_false, true_and, and_true, false_and, Bool.not_true, Bool.not_false, List.isEmpty_cons, List.length_map, full, beq_self_eq_true])
    rw [full] at fin
    exact fin
theorem turns (T : Tx K mg a) {zs : List Int} {D' : FD} {δ : Sl} (st : ∃ y2 y3 y4 y5 y6 y7 y8 y9 y10 y11 y12 y13 y14 y15 y16, δ = Sl17 zs y2 y3 y4 y5 y6 y7 y8 y9 y10 y11 y12 y13 y14 y15 y16 ∧ Draw μ 0)
    (hN : ∀ δ' μ', D'.nx δ' μ') : L_law_4 K a D' δ μ := by
  unfold L_law_4
  rw [fFor_eq]
  have go := st
  obtain ⟨y2, y3, y4, y5, y6, y7, y8, y9, y10, y11, y12, y13, y14, y15, y16, rfl, hd⟩ := go
  (try simp only [fAsg, fPar, fPar2, fPar3, fIfS, fRet, fRetN, fDrop, fNil, fBreak, fCont, fAugN, fAugF, fApp, fRaise, mvL, moved, eVar, eVal, eOp2, eOp1, eTup, eLst, eNew, eIf, eAnd2, eOr2, eNot1, eFrz, asD, asB, eFld, eCall, eMake, eMeth, eSl, oNone, oSome, aNil, aCons, lNil, lCons, gNm, gFd, gIx, gTp, gsNil, gsCons, tTru, tBool, tAnd2, tOr2, tNot1, tYesD, addM_i, addM_s, addM_t, addM_oo, addM_bo, addM_ob, addM_lo, addM_ol, addM_ll, subM_i, mulM_i, mulM_o, fdivM_i, modM_i, intAddM_i, cmpM_i, min2M_i, max2M_i, negM_i, absM_i, toIntM_i, isnM_any, isN, eqM_i, eqM_b, eqM_s, eqM_t, ixM_t, ixM_o, ixM_l, ixM_k, ixM_r, ixM_b, truM_b, truM_i, truM_n, truM_t, truM_o, lenM, sumM, tupM, listM, slM, lget, lgetR, lput, iRng1D, iRng2D, iSeq, itOf, List.map_cons, List.map_nil, List.replicate_zero, List.replicate_succ, List.cons_append, List.nil_append, List.append_nil, List.getElem?_cons_succ, List.getElem?_cons_zero, List.set_cons_zero, List.set_cons_succ, List.length_cons, List.length_nil, Nat.reduceAdd, Nat.reduceSub, Nat.reduceLT, Nat.reduceLeDiff, Nat.sub_self, decide_eq_true_eq, sz0, sz1, sz2, sz3, sz4, sz5, sz6, sz7, sz8, ok_int, ok_bl, ok_non, ok_tup, ok_lst, eqb_int, eqb_bl, at0, at1, at2, at3, at4, at5, beq_iff_eq, ite_true, ite_false, Bool.false_eq_true, if_true, if_false, true_and, and_true, false_and, Bool.not_true, Bool.not_false, Sl17])
  refine ⟨by decide, ?_⟩
  refine loop_rng (fun _ δ μ => ∃ y2 y3 y4 y5 y6 y7 y8 y9 y10 y11 y12 y13 y14 y15 y16, δ = Sl17 zs y2 y3 y4 y5 y6 y7 y8 y9 y10 y11 y12 y13 y14 y15 y16 ∧ Draw μ 0) st ?_ fun δ' μ' _ => hN δ' μ'
  clear st hd
  rintro i δ' μ hi ⟨y2, y3, y4, y5, y6, y7, y8, y9, y10, y11, y12, y13, y14, y15, y16, rfl, hd⟩
  (try simp only [fAsg, fPar, fPar2, fPar3, fIfS, fRet, fRetN, fDrop, fNil, fBreak, fCont, fAugN, fAugF, fApp, fRaise, mvL, moved, eVar, eVal, eOp2, eOp1, eTup, eLst, eNew, eIf, eAnd2, eOr2, eNot1, eFrz, asD, asB, eFld, eCall, eMake, eMeth, eSl, oNone, oSome, aNil, aCons, lNil, lCons, gNm, gFd, gIx, gTp, gsNil, gsCons, tTru, tBool, tAnd2, tOr2, tNot1, tYesD, addM_i, addM_s, addM_t, addM_oo, addM_bo, addM_ob, addM_lo, addM_ol, addM_ll, subM_i, mulM_i, mulM_o, fdivM_i, modM_i, intAddM_i, cmpM_i, min2M_i, max2M_i, negM_i, absM_i, toIntM_i, isnM_any, isN, eqM_i, eqM_b, eqM_s, eqM_t, ixM_t, ixM_o, ixM_l, ixM_k, ixM_r, ixM_b, truM_b, truM_i, truM_n, truM_t, truM_o, lenM, sumM, tupM, listM, slM, lget, lgetR, lput, iRng1D, iRng2D, iSeq, itOf, List.map_cons, List.map_nil, List.replicate_zero, List.replicate_succ, List.cons_append, List.nil_append, List.append_nil, List.getElem?_cons_succ, List.getElem?_cons_zero, List.set_cons_zero, List.set_cons_succ, List.length_cons, List.length_nil, Nat.reduceAdd, Nat.reduceSub, Nat.reduceLT, Nat.reduceLeDiff, Nat.sub_self, decide_eq_true_eq, sz0, sz1, sz2, sz3, sz4, sz5, sz6, sz7, sz8, ok_int, ok_bl, ok_non, ok_tup, ok_lst, eqb_int, eqb_bl, at0, at1, at2, at3, at4, at5, beq_iff_eq, ite_true, ite_false, Bool.false_eq_true, if_true, if_false, true_and, and_true, false_and, Bool.not_true, Bool.not_false, Sl17])
  refine fCons.go ?_
  (try simp only [fAsg, fPar, fPar2, fPar3, fIfS, fRet, fRetN, fDrop, fNil, fBreak, fCont, fAugN, fAugF, fApp, fRaise, mvL, moved, eVar, eVal, eOp2, eOp1, eTup, eLst, eNew, eIf, eAnd2, eOr2, eNot1, eFrz, asD, asB, eFld, eCall, eMake, eMeth, eSl, oNone, oSome, aNil, aCons, lNil, lCons, gNm, gFd, gIx, gTp, gsNil, gsCons, tTru, tBool, tAnd2, tOr2, tNot1, tYesD, addM_i, addM_s, addM_t, addM_oo, addM_bo, addM_ob, addM_lo, addM_ol, addM_ll, subM_i, mulM_i, mulM_o, fdivM_i, modM_i, intAddM_i, cmpM_i, min2M_i, max2M_i, negM_i, absM_i, toIntM_i, isnM_any, isN, eqM_i, eqM_b, eqM_s, eqM_t, ixM_t, ixM_o, ixM_l, ixM_k, ixM_r, ixM_b, truM_b, truM_i, truM_n, truM_t, truM_o, lenM, sumM, tupM, listM, slM, lget, lgetR, lput, iRng1D, iRng2D, iSeq, itOf, List.map_cons, List.map_nil, List.replicate_zero, List.replicate_succ, List.cons_append, List.nil_append, List.append_nil, List.getElem?_cons_succ, List.getElem?_cons_zero, List.set_cons_zero, List.set_cons_succ, List.length_cons, List.length_nil, Nat.reduceAdd, Nat.reduceSub, Nat.reduceLT, Nat.reduceLeDiff, Nat.sub_self, decide_eq_true_eq, sz0, sz1, sz2, sz3, sz4, sz5, sz6, sz7, sz8, ok_int, ok_bl, ok_non, ok_tup, ok_lst, eqb_int, eqb_bl, at0, at1, at2, at3, at4, at5, beq_iff_eq, ite_true, ite_false, Bool.false_eq_true, if_true, if_false, true_and, and_true, false_and, Bool.not_true, Bool.not_false])
  refine take__ hd (by decide) (by decide) fun v μ v1 v2 hd o => ?_
  (try simp only [fAsg, fPar, fPar2, fPar3, fIfS, fRet, fRetN, fDrop, fNil, fBreak, fCont, fAugN, fAugF, fApp, fRaise, mvL, moved, eVar, eVal, eOp2, eOp1, eTup, eLst, eNew, eIf, eAnd2, eOr2, eNot1, eFrz, asD, asB, eFld, eCall, eMake, eMeth, eSl, oNone, oSome, aNil, aCons, lNil, lCons, gNm, gFd, gIx, gTp, gsNil, gsCons, tTru, tBool, tAnd2, tOr2, tNot1, tYesD, addM_i, addM_s, addM_t, addM_oo, addM_bo, addM_ob, addM_lo, addM_ol, addM_ll, subM_i, mulM_i, mulM_o, fdivM_i, modM_i, intAddM_i, cmpM_i, min2M_i, max2M_i, negM_i, absM_i, toIntM_i, isnM_any, isN, eqM_i, eqM_b, eqM_s, eqM_t, ixM_t, ixM_o, ixM_l, ixM_k, ixM_r, ixM_b, truM_b, truM_i, truM_n, truM_t, truM_o, lenM, sumM, tupM, listM, slM, lget, lgetR, lput, iRng1D, iRng2D, iSeq, itOf, List.map_cons, List.map_nil, List.replicate_zero, List.replicate_succ, List.cons_append, List.nil_append, List.append_nil, List.getElem?_cons_succ, List.getElem?_cons_zero, List.set_cons_zero, List.set_cons_succ, List.length_cons, List.length_nil, Nat.reduceAdd, Nat.reduceSub, Nat.reduceLT, Nat.reduceLeDiff, Nat.sub_self, decide_eq_true_eq, sz0, sz1, sz2, sz3, sz4, sz5, sz6, sz7, sz8, ok_int, ok_bl, ok_non, ok_tup, ok_lst, eqb_int, eqb_bl, at0, at1, at2, at3, at4, at5, beq_iff_eq, ite_true, ite_false, Bool.false_eq_true, if_true, if_false, true_and, and_true, false_and, Bool.not_true, Bool.not_false])
  have l1 : 1 ≤ 1 + v := by omega
  have l2 : 1 + v ≤ 9 := by omega
  generalize 1 + v = l at l1 l2
  refine fCons.go ?_
  (try simp only [fAsg, fPar, fPar2, fPar3, fIfS, fRet, fRetN, fDrop, fNil, fBreak, fCont, fAugN, fAugF, fApp, fRaise, mvL, moved, eVar, eVal, eOp2, eOp1, eTup, eLst, eNew, eIf, eAnd2, eOr2, eNot1, eFrz, asD, asB, eFld, eCall, eMake, eMeth, eSl, oNone, oSome, aNil, aCons, lNil, lCons, gNm, gFd, gIx, gTp, gsNil, gsCons, tTru, tBool, tAnd2, tOr2, tNot1, tYesD, addM_i, addM_s, addM_t, addM_oo, addM_bo, addM_ob, addM_lo, addM_ol, addM_ll, subM_i, mulM_i, mulM_o, fdivM_i, modM_i, intAddM_i, cmpM_i, min2M_i, max2M_i, negM_i, absM_i, toIntM_i, isnM_any, isN, eqM_i, eqM_b, eqM_s, eqM_t, ixM_t, ixM_o, ixM_l, ixM_k, ixM_r, ixM_b, truM_b, truM_i, truM_n, truM_t, truM_o, lenM, sumM, tupM, listM, slM, lget, lgetR, lput, iRng1D, iRng2D, iSeq, itOf, List.map_cons, List.map_nil, List.replicate_zero, List.replicate_succ, List.cons_append, List.nil_append, List.append_nil, List.getElem?_cons_succ, List.getElem?_cons_zero, List.set_cons_zero, List.set_cons_succ, List.length_cons, List.length_nil, Nat.reduceAdd, Nat.reduceSub, Nat.reduceLT, Nat.reduceLeDiff, Nat.sub_self, decide_eq_true_eq, sz0, sz1, sz2, sz3, sz4, sz5, sz6, sz7, sz8, ok_int, ok_bl, ok_non, ok_tup, ok_lst, eqb_int, eqb_bl, at0, at1, at2, at3, at4, at5, beq_iff_eq, ite_true, ite_false, Bool.false_eq_true, if_true, if_false, true_and, and_true, false_and, Bool.not_true, Bool.not_false])
  refine init_ T fun μ' adT em len old => ?_
  have hn : μ.length ≠ 0 := by have := hd.lt; omega
  have hd1 : Draw μ' 0 := let ⟨ds, e, w⟩ := hd; ⟨ds, (old 0 (by omega)).trans e, w⟩
  (try simp only [fAsg, fPar, fPar2, fPar3, fIfS, fRet, fRetN, fDrop, fNil, fBreak, fCont, fAugN, fAugF, fApp, fRaise, mvL, moved, eVar, eVal, eOp2, eOp1, eTup, eLst, eNew, eIf, eAnd2, eOr2, eNot1, eFrz, asD, asB, eFld, eCall, eMake, eMeth, eSl, oNone, oSome, aNil, aCons, lNil, lCons, gNm, gFd, gIx, gTp, gsNil, gsCons, tTru, tBool, tAnd2, tOr2, tNot1, tYesD, addM_i, addM_s, addM_t, addM_oo, addM_bo, addM_ob, addM_lo, addM_ol, addM_ll, subM_i, mulM_i, mulM_o, fdivM_i, modM_i, intAddM_i, cmpM_i, min2M_i, max2M_i, negM_i, absM_i, toIntM_i, isnM_any, isN, eqM_i, eqM_b, eqM_s, eqM_t, ixM_t, ixM_o, ixM_l, ixM_k, ixM_r, ixM_b, truM_b, truM_i, truM_n, truM_t, truM_o, lenM, sumM, tupM, listM, slM, lget, lgetR, lput, iRng1D, iRng2D, iSeq, itOf, List.map_cons, List.map_nil, List.replicate_zero, List.replicate_succ, List.cons_append, List.nil_append, List.append_nil, List.getElem?_cons_succ, List.getElem?_cons_zero, List.set_cons_zero, List.set_cons_succ, List.length_cons, List.length_nil, Nat.reduceAdd, Nat.reduceSub, Nat.reduceLT, Nat.reduceLeDiff, Nat.sub_self, decide_eq_true_eq, sz0, sz1, sz2, sz3, sz4, sz5, sz6, sz7, sz8, ok_int, ok_bl, ok_non, ok_tup, ok_lst, eqb_int, eqb_bl, at0, at1, at2, at3, at4, at5, beq_iff_eq, ite_true, ite_false, Bool.false_eq_true, if_true, if_false, true_and, and_true, false_and, Bool.not_true, Bool.not_false])
  intro ad
  refine fCons.go (ticks T l1 l2 hn ⟨y9, iv (0 + (i : Int)), y10, y11, y12, y13, y14, y15, y16, ad, adT, [], [], 0, 0, 0, rfl, hd1, em, List.Perm.refl _, fun t h => by simp at h, List.nodup_nil, Nat.zero_le _, Int.le_refl _, by omega, Int.le_refl _, by omega, by omega⟩ fun δ' μ2 i y9 hi q => ?_)
  obtain ⟨y2, y10, y11, y12, y13, y14, y15, y16, ad, adT, ts, oc, late, many, whole, rfl, hd, em, pm, ok, nd, len, m0, m1, t0, t1, wh⟩ := q
  (try simp only [fAsg, fPar, fPar2, fPar3, fIfS, fRet, fRetN, fDrop, fNil, fBreak, fCont, fAugN, fAugF, fApp, fRaise, mvL, moved, eVar, eVal, eOp2, eOp1, eTup, eLst, eNew, eIf, eAnd2, eOr2, eNot1, eFrz, asD, asB, eFld, eCall, eMake, eMeth, eSl, oNone, oSome, aNil, aCons, lNil, lCons, gNm, gFd, gIx, gTp, gsNil, gsCons, tTru, tBool, tAnd2, tOr2, tNot1, tYesD, addM_i, addM_s, addM_t, addM_oo, addM_bo, addM_ob, addM_lo, addM_ol, addM_ll, subM_i, mulM_i, mulM_o, fdivM_i, modM_i, intAddM_i, cmpM_i, min2M_i, max2M_i, negM_i, absM_i, toIntM_i, isnM_any, isN, eqM_i, eqM_b, eqM_s, eqM_t, ixM_t, ixM_o, ixM_l, ixM_k, ixM_r, ixM_b, truM_b, truM_i, truM_n, truM_t, truM_o, lenM, sumM, tupM, listM, slM, lget, lgetR, lput, iRng1D, iRng2D, iSeq, itOf, List.map_cons, List.map_nil, List.replicate_zero, List.replicate_succ, List.cons_append, List.nil_append, List.append_nil, List.getElem?_cons_succ, List.getElem?_cons_zero, List.set_cons_zero, List.set_cons_succ, List.length_cons, List.length_nil, Nat.reduceAdd, Nat.reduceSub, Nat.reduceLT, Nat.reduceLeDiff, Nat.sub_self, decide_eq_true_eq, sz0, sz1, sz2, sz3, sz4, sz5, sz6, sz7, sz8, ok_int, ok_bl, ok_non, ok_tup, ok_lst, eqb_int, eqb_bl, at0, at1, at2, at3, at4, at5, beq_iff_eq, ite_true, ite_false, Bool.false_eq_true, if_true, if_false, true_and, and_true, false_and, Bool.not_true, Bool.not_false, Sl17, iv, em, o_Haste, lk_Haste__line, pi_Haste__line, pt_Haste__line, fk_Haste__line T, lk_Haste__now, pi_Haste__now, pt_Haste__now, fk_Haste__now T, lk_Haste__many, pi_Haste__many, pt_Haste__many, fk_Haste__many T, lk_Haste__things, pi_Haste__things, pt_Haste__things, fk_Haste__things T, lk_Haste__late, pi_Haste__late, pt_Haste__late, fk_Haste__late T, lm_Haste_now, tb_Haste_now, lm_Haste_put, tb_Haste_put, lm_Haste_waiting, tb_Haste_waiting, lm_Haste_late, tb_Haste_late, lm_Haste_overdue, tb_Haste_overdue, lm_Haste_tick, tb_Haste_tick])
  refine now_ T em ?_
  (try simp only [fAsg, fPar, fPar2, fPar3, fIfS, fRet, fRetN, fDrop, fNil, fBreak, fCont, fAugN, fAugF, fApp, fRaise, mvL, moved, eVar, eVal, eOp2, eOp1, eTup, eLst, eNew, eIf, eAnd2, eOr2, eNot1, eFrz, asD, asB, eFld, eCall, eMake, eMeth, eSl, oNone, oSome, aNil, aCons, lNil, lCons, gNm, gFd, gIx, gTp, gsNil, gsCons, tTru, tBool, tAnd2, tOr2, tNot1, tYesD, addM_i, addM_s, addM_t, addM_oo, addM_bo, addM_ob, addM_lo, addM_ol, addM_ll, subM_i, mulM_i, mulM_o, fdivM_i, modM_i, intAddM_i, cmpM_i, min2M_i, max2M_i, negM_i, absM_i, toIntM_i, isnM_any, isN, eqM_i, eqM_b, eqM_s, eqM_t, ixM_t, ixM_o, ixM_l, ixM_k, ixM_r, ixM_b, truM_b, truM_i, truM_n, truM_t, truM_o, lenM, sumM, tupM, listM, slM, lget, lgetR, lput, iRng1D, iRng2D, iSeq, itOf, List.map_cons, List.map_nil, List.replicate_zero, List.replicate_succ, List.cons_append, List.nil_append, List.append_nil, List.getElem?_cons_succ, List.getElem?_cons_zero, List.set_cons_zero, List.set_cons_succ, List.length_cons, List.length_nil, Nat.reduceAdd, Nat.reduceSub, Nat.reduceLT, Nat.reduceLeDiff, Nat.sub_self, decide_eq_true_eq, sz0, sz1, sz2, sz3, sz4, sz5, sz6, sz7, sz8, ok_int, ok_bl, ok_non, ok_tup, ok_lst, eqb_int, eqb_bl, at0, at1, at2, at3, at4, at5, beq_iff_eq, ite_true, ite_false, Bool.false_eq_true, if_true, if_false, true_and, and_true, false_and, Bool.not_true, Bool.not_false])
  refine ⟨mulOk_l (by omega) (by omega), ?_⟩
  rw [if_neg (by omega)]
  exact ⟨y2, _, _, _, _, _, _, y9, y10, y11, y12, y13, y14, y15, y16, rfl, hd⟩
theorem den (K : PySem.W.Frag) (mg : Str → Option Value) (a : Ad) (T : Tx K mg a) (zs : List Int) (hz : zs.length ≤ 63) (_ : ∀ z ∈ zs, Builtin.Int.intBits z ≤ 1048576) : LawDen (d_law K a) zs := by
  refine ⟨rfl, fCons.go ?_⟩
  (try simp only [fAsg, fPar, fPar2, fPar3, fIfS, fRet, fRetN, fDrop, fNil, fBreak, fCont, fAugN, fAugF, fApp, fRaise, mvL, moved, eVar, eVal, eOp2, eOp1, eTup, eLst, eNew, eIf, eAnd2, eOr2, eNot1, eFrz, asD, asB, eFld, eCall, eMake, eMeth, eSl, oNone, oSome, aNil, aCons, lNil, lCons, gNm, gFd, gIx, gTp, gsNil, gsCons, tTru, tBool, tAnd2, tOr2, tNot1, tYesD, addM_i, addM_s, addM_t, addM_oo, addM_bo, addM_ob, addM_lo, addM_ol, addM_ll, subM_i, mulM_i, mulM_o, fdivM_i, modM_i, intAddM_i, cmpM_i, min2M_i, max2M_i, negM_i, absM_i, toIntM_i, isnM_any, isN, eqM_i, eqM_b, eqM_s, eqM_t, ixM_t, ixM_o, ixM_l, ixM_k, ixM_r, ixM_b, truM_b, truM_i, truM_n, truM_t, truM_o, lenM, sumM, tupM, listM, slM, lget, lgetR, lput, iRng1D, iRng2D, iSeq, itOf, List.map_cons, List.map_nil, List.replicate_zero, List.replicate_succ, List.cons_append, List.nil_append, List.append_nil, List.getElem?_cons_succ, List.getElem?_cons_zero, List.set_cons_zero, List.set_cons_succ, List.length_cons, List.length_nil, Nat.reduceAdd, Nat.reduceSub, Nat.reduceLT, Nat.reduceLeDiff, Nat.sub_self, decide_eq_true_eq, sz0, sz1, sz2, sz3, sz4, sz5, sz6, sz7, sz8, ok_int, ok_bl, ok_non, ok_tup, ok_lst, eqb_int, eqb_bl, at0, at1, at2, at3, at4, at5, beq_iff_eq, ite_true, ite_false, Bool.false_eq_true, if_true, if_false, true_and, and_true, false_and, Bool.not_true, Bool.not_false])
  refine draw_ (by omega) fun μ hd _ _ => ?_
  refine fCons.go ?_
  (try simp only [fAsg, fPar, fPar2, fPar3, fIfS, fRet, fRetN, fDrop, fNil, fBreak, fCont, fAugN, fAugF, fApp, fRaise, mvL, moved, eVar, eVal, eOp2, eOp1, eTup, eLst, eNew, eIf, eAnd2, eOr2, eNot1, eFrz, asD, asB, eFld, eCall, eMake, eMeth, eSl, oNone, oSome, aNil, aCons, lNil, lCons, gNm, gFd, gIx, gTp, gsNil, gsCons, tTru, tBool, tAnd2, tOr2, tNot1, tYesD, addM_i, addM_s, addM_t, addM_oo, addM_bo, addM_ob, addM_lo, addM_ol, addM_ll, subM_i, mulM_i, mulM_o, fdivM_i, modM_i, intAddM_i, cmpM_i, min2M_i, max2M_i, negM_i, absM_i, toIntM_i, isnM_any, isN, eqM_i, eqM_b, eqM_s, eqM_t, ixM_t, ixM_o, ixM_l, ixM_k, ixM_r, ixM_b, truM_b, truM_i, truM_n, truM_t, truM_o, lenM, sumM, tupM, listM, slM, lget, lgetR, lput, iRng1D, iRng2D, iSeq, itOf, List.map_cons, List.map_nil, List.replicate_zero, List.replicate_succ, List.cons_append, List.nil_append, List.append_nil, List.getElem?_cons_succ, List.getElem?_cons_zero, List.set_cons_zero, List.set_cons_succ, List.length_cons, List.length_nil, Nat.reduceAdd, Nat.reduceSub, Nat.reduceLT, Nat.reduceLeDiff, Nat.sub_self, decide_eq_true_eq, sz0, sz1, sz2, sz3, sz4, sz5, sz6, sz7, sz8, ok_int, ok_bl, ok_non, ok_tup, ok_lst, eqb_int, eqb_bl, at0, at1, at2, at3, at4, at5, beq_iff_eq, ite_true, ite_false, Bool.false_eq_true, if_true, if_false, true_and, and_true, false_and, Bool.not_true, Bool.not_false])
  refine turns T ⟨_, _, _, _, _, _, _, _, _, _, _, _, _, _, _, rfl, hd⟩ fun δ' μ' => ?_
  (try simp only [fAsg, fPar, fPar2, fPar3, fIfS, fRet, fRetN, fDrop, fNil, fBreak, fCont, fAugN, fAugF, fApp, fRaise, mvL, moved, eVar, eVal, eOp2, eOp1, eTup, eLst, eNew, eIf, eAnd2, eOr2, eNot1, eFrz, asD, asB, eFld, eCall, eMake, eMeth, eSl, oNone, oSome, aNil, aCons, lNil, lCons, gNm, gFd, gIx, gTp, gsNil, gsCons, tTru, tBool, tAnd2, tOr2, tNot1, tYesD, addM_i, addM_s, addM_t, addM_oo, addM_bo, addM_ob, addM_lo, addM_ol, addM_ll, subM_i, mulM_i, mulM_o, fdivM_i, modM_i, intAddM_i, cmpM_i, min2M_i, max2M_i, negM_i, absM_i, toIntM_i, isnM_any, isN, eqM_i, eqM_b, eqM_s, eqM_t, ixM_t, ixM_o, ixM_l, ixM_k, ixM_r, ixM_b, truM_b, truM_i, truM_n, truM_t, truM_o, lenM, sumM, tupM, listM, slM, lget, lgetR, lput, iRng1D, iRng2D, iSeq, itOf, List.map_cons, List.map_nil, List.replicate_zero, List.replicate_succ, List.cons_append, List.nil_append, List.append_nil, List.getElem?_cons_succ, List.getElem?_cons_zero, List.set_cons_zero, List.set_cons_succ, List.length_cons, List.length_nil, Nat.reduceAdd, Nat.reduceSub, Nat.reduceLT, Nat.reduceLeDiff, Nat.sub_self, decide_eq_true_eq, sz0, sz1, sz2, sz3, sz4, sz5, sz6, sz7, sz8, ok_int, ok_bl, ok_non, ok_tup, ok_lst, eqb_int, eqb_bl, at0, at1, at2, at3, at4, at5, beq_iff_eq, ite_true, ite_false, Bool.false_eq_true, if_true, if_false, true_and, and_true, false_and, Bool.not_true, Bool.not_false])
end
end K68

set_option maxRecDepth 100000 in
set_option maxHeartbeats 0 in
open PySem PySem.W PyProof.Rows in
theorem PySem.Challenge.cw_nothingtwice_k68_what_must_be_through_fi_holds : PySem.Challenge.rw_nothingtwice_k68_what_must_be_through_fi.Holds := by
  w_on; o_law; k_head; (case hw => w_witness2)
  k_fill
  refine' NT.nt_walkA K68.d_law ⟨_, _, _, _, _, _, _, _, _, _, _, _⟩ (l := PySem.Challenge.rw_nothingtwice_k68_what_must_be_through_fi) (n := 63) (k := 3) rfl (by decide) rfl ⟨rfl, by decide, by decide⟩ (fun w h Y => PySem.W.kIn_of Y) ?F
  case F =>
    intro w mg fa h KX G hmg
    refine' K68.fin K68.den KX G hmg ?n_abs ?n_int ?n_len ?n_min ?n_range ?n_repr ?n_sorted ?n_sum ?n_tuple ?a_Haste ?a_Haste_init ?i_Haste_init ?l_Haste_init ?c_Haste_init ?k_Haste_init ?a_Haste_now ?i_Haste_now ?l_Haste_now ?c_Haste_now ?k_Haste_now ?a_Haste_put ?i_Haste_put ?l_Haste_put ?c_Haste_put ?k_Haste_put ?a_Haste_waiting ?i_Haste_waiting ?l_Haste_waiting ?c_Haste_waiting ?k_Haste_waiting ?a_Haste_late ?i_Haste_late ?l_Haste_late ?c_Haste_late ?k_Haste_late ?a_Haste_overdue ?i_Haste_overdue ?l_Haste_overdue ?c_Haste_overdue ?k_Haste_overdue ?a_Haste_tick ?i_Haste_tick ?l_Haste_tick ?c_Haste_tick ?k_Haste_tick ?a_law_draw ?l_law_draw ?c_law_draw ?k_law_draw ?a_law_take ?l_law_take ?c_law_take ?k_law_take ?a_law_same ?l_law_same ?c_law_same ?k_law_same ?a_law ?l_law ?c_law ?k_law ?pg_Haste ?hd_Haste ?po_Haste ?sa_Haste ?mk_Haste ?kc_Haste ?n_Haste__line ?n_Haste__now ?n_Haste__many ?n_Haste__things ?n_Haste__late
    (case n_abs => k_is); (case n_int => k_is); (case n_len => k_is); (case n_min => k_is); (case n_range => k_is); (case n_repr => k_is); (case n_sorted => k_is); (case n_sum => k_is)
    (case n_tuple => k_is); (case a_Haste => k_is); (case a_Haste_init => k_is); (case i_Haste_init => k_is); (case l_Haste_init => k_is); (case c_Haste_init => k_is); (case k_Haste_init => k_is); (case a_Haste_now => k_is)
    (case i_Haste_now => k_is); (case l_Haste_now => k_is); (case c_Haste_now => k_is); (case k_Haste_now => k_is); (case a_Haste_put => k_is); (case i_Haste_put => k_is); (case l_Haste_put => k_is); (case c_Haste_put => k_is)
    (case k_Haste_put => k_is); (case a_Haste_waiting => k_is); (case i_Haste_waiting => k_is); (case l_Haste_waiting => k_is); (case c_Haste_waiting => k_is); (case k_Haste_waiting => k_is); (case a_Haste_late => k_is); (case i_Haste_late => k_is)
    (case l_Haste_late => k_is); (case c_Haste_late => k_is); (case k_Haste_late => k_is); (case a_Haste_overdue => k_is); (case i_Haste_overdue => k_is); (case l_Haste_overdue => k_is); (case c_Haste_overdue => k_is); (case k_Haste_overdue => k_is)
    (case a_Haste_tick => k_is); (case i_Haste_tick => k_is); (case l_Haste_tick => k_is); (case c_Haste_tick => k_is); (case k_Haste_tick => k_is); (case a_law_draw => k_is); (case l_law_draw => k_is); (case c_law_draw => k_is)
    (case k_law_draw => k_is); (case a_law_take => k_is); (case l_law_take => k_is); (case c_law_take => k_is); (case k_law_take => k_is); (case a_law_same => k_is); (case l_law_same => k_is); (case c_law_same => k_is)
    (case k_law_same => k_is); (case a_law => k_is); (case l_law => k_is); (case c_law => k_is); (case k_law => k_is); (case pg_Haste => k_is); (case hd_Haste => k_is); (case po_Haste => k_is)
    (case sa_Haste => k_is); (case mk_Haste => k_is); (case kc_Haste => k_is); (case n_Haste__line => k_is); (case n_Haste__now => k_is); (case n_Haste__many => k_is); (case n_Haste__things => k_is); (case n_Haste__late => k_is)

