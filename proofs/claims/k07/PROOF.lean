import PyProof.Rows.All
import Wide.All
import OpenK.AllK
import Wide.FinOn
import HandS.ForMost
import HandS.Wide
import HandS.IsInst
import HandS.Style
import HandS.Walk
import HandS.WideBits
import HandS.Ends
import PyProof.ReprReads
import PyProof.ReprRoads
import PyProof.MaxThree
import HandS.TupLe
import HandS.NoneIn
import HandS.RaiseMore
import HandS.SortInts
import HandS.SortKw
import KE.DataMinMax
import PySem.Challenge.RW_onecut_k07_sets_of_cuts_known
set_option Elab.async false
set_option autoImplicit false
set_option linter.all false
set_option maxRecDepth 100000
set_option maxHeartbeats 8000000
set_option autoImplicit false
/-! Pu: values without addresses (PyData and cells) over the abstract heap; every rule of the layer L2 once more over these values. -/
namespace Pu
open PySem PySem.Spec PyProof.Rows L2

/-! ### what a value without addresses is, on a heap -/
/-- a list that stays: it is locked, or an object of the written part -/
def SqF (K : PySem.W.Frag) (H : Hp) (a : Addr) (vs : List V) : Prop := (∃ o, H a = some (.frz o (.lst vs))) ∨
  ∃ (its : List Value) (n : Nat), K.lookup a = some { cls := .type "list", data := .seq its.toArray n } ∧ its.length ≤ sizeLine ∧ Vals vs its
/-- a list that is read -/
def RdL (K : PySem.W.Frag) (H : Hp) (a : Addr) (vs : List V) : Prop := H a = some (.lst vs) ∨ SqF K H a vs
theorem SqF.seq {K : PySem.W.Frag} {H : Hp} {a : Addr} {vs : List V} (h : SqF K H a vs) : SqL K H a vs := by
  rcases h with ⟨o, h⟩ | ⟨its, n, h, hz, r⟩
  · exact .inl (.inr ⟨o, h⟩)
  · exact .inr ⟨_, its.toArray, n, h, rfl, rfl, rfl, by simpa using hz, by simpa using r⟩
theorem RdL.seq {K : PySem.W.Frag} {H : Hp} {a : Addr} {vs : List V} (h : RdL K H a vs) : SqL K H a vs := by
  rcases h with h | h
  · exact .of h
  · exact h.seq
mutual
def Rep (K : PySem.W.Frag) (H : Hp) : PyData → V → Prop
  | .none, v => v = .non
  | .bool b, v => v = .bl b
  | .int i, v => v = .int i
  | .str s, v => v = .str s
  | .list xs, v => ∃ a vs, v = .ref a ∧ SqF K H a vs ∧ Reps K H xs vs
  | .tuple xs, v => ∃ a vs, v = .ref a ∧ SqT K H a vs ∧ Reps K H xs vs
  | .dict kvs, v => ∃ (a : Addr) (ps : List (Int × Int)), v = .ref a ∧ (∃ o, H a = some (.frz o (.dK (ps.map fun p => (Sum.inl p.1, V.int p.2))))) ∧ kvs = ps.map fun p => (.int p.1, .int p.2)
def Reps (K : PySem.W.Frag) (H : Hp) : List PyData → List V → Prop
  | [], vs => vs = []
  | x :: xs, vs => ∃ v ws, vs = v :: ws ∧ Rep K H x v ∧ Reps K H xs ws
end
/-- tuples and locked things stay -/
structure Ge (H H' : Hp) : Prop where
  tup : ∀ b xs, H b = some (.tup xs) → H' b = some (.tup xs)
  frz : ∀ b o u, H b = some (.frz o u) → H' b = some (.frz o u)
theorem Ge.refl (H : Hp) : Ge H H := ⟨fun _ _ h => h, fun _ _ _ h => h⟩
theorem Ge.trans {H H1 H2 : Hp} (a : Ge H H1) (b : Ge H1 H2) : Ge H H2 := ⟨fun c xs h => b.tup c xs (a.tup c xs h), fun c o u h => b.frz c o u (a.frz c o u h)⟩
theorem Ge.of_same {H H' : Hp} (s : Same H H') : Ge H H' := ⟨fun b _ h => s b _ h, fun b _ _ h => s b _ h⟩
theorem same_new {H : Hp} {p : Addr} {o : HO} (h : H p = none) : Same H (upd H p o) := fun b x e => by
  rw [upd_ne (ne_of_none e h)]; exact e
theorem Ge.new {H : Hp} {p : Addr} {o : HO} (h : H p = none) : Ge H (upd H p o) := .of_same (same_new h)
theorem Ge.put {H : Hp} {p : Addr} {o : HO} {xs : List V} (h : H p = some (.lst xs)) : Ge H (upd H p o) :=
  ⟨fun b ys e => by rw [upd_ne (fun z => by rw [z, h] at e; cases e)]; exact e, fun b o' u e => by rw [upd_ne (fun z => by rw [z, h] at e; cases e)]; exact e⟩
section
variable {K : PySem.W.Frag} {H H' : Hp}
theorem SqF.mono {a : Addr} {vs : List V} (g : Ge H H') (h : SqF K H a vs) : SqF K H' a vs := by
  rcases h with ⟨o, h⟩ | h
  · exact .inl ⟨o, g.frz _ _ _ h⟩
  · exact .inr h
theorem sqT_mono {a : Addr} {vs : List V} (g : Ge H H') (h : SqT K H a vs) : SqT K H' a vs := by
  rcases h with (h | ⟨o, h⟩) | h
  · exact .inl (.inl (g.tup _ _ h))
  · exact .inl (.inr ⟨o, g.frz _ _ _ h⟩)
  · exact .inr h
mutual
theorem Rep.mono (g : Ge H H') : ∀ (d : PyData) (v : V), Rep K H d v → Rep K H' d v
  | .none, _, h => h
  | .bool _, _, h => h
  | .int _, _, h => h
  | .str _, _, h => h
  | .list xs, _, ⟨a, vs, e, s, r⟩ => ⟨a, vs, e, s.mono g, Reps.mono g xs vs r⟩
  | .tuple xs, _, ⟨a, vs, e, s, r⟩ => ⟨a, vs, e, sqT_mono g s, Reps.mono g xs vs r⟩
  | .dict _, _, ⟨a, ps, e, ⟨o, h⟩, k⟩ => ⟨a, ps, e, ⟨o, g.frz _ _ _ h⟩, k⟩
theorem Reps.mono (g : Ge H H') : ∀ (ds : List PyData) (vs : List V), Reps K H ds vs → Reps K H' ds vs
  | [], _, h => h
  | x :: xs, _, ⟨v, ws, e, r, t⟩ => ⟨v, ws, e, Rep.mono g x v r, Reps.mono g xs ws t⟩
end
theorem Reps.length : ∀ {ds : List PyData} {vs : List V}, Reps K H ds vs → ds.length = vs.length
  | [], _, h => by rw [show _ = [] from h]; rfl
  | _ :: _, _, ⟨_, _, e, _, t⟩ => by rw [e, List.length_cons, List.length_cons, Reps.length t]
theorem Reps.get : ∀ {ds : List PyData} {vs : List V} {i : Nat} {d : PyData}, Reps K H ds vs → ds[i]? = some d → ∃ v, vs[i]? = some v ∧ Rep K H d v
  | [], _, _, _, _, e => by simp at e
  | _ :: _, _, 0, _, ⟨v, ws, e, r, _⟩, h => by
    simp at h; subst h; subst e; exact ⟨v, rfl, r⟩
  | _ :: xs, _, i + 1, d, ⟨v, ws, e, _, t⟩, h => by
    subst e
    obtain ⟨u, h1, h2⟩ := Reps.get (i := i) t (by simpa using h)
    exact ⟨u, by simpa using h1, h2⟩
theorem Reps.set {d : PyData} {v : V} (r : Rep K H d v) : ∀ {ds : List PyData} {vs : List V} (i : Nat), Reps K H ds vs → Reps K H (ds.set i d) (vs.set i v)
  | [], _, _, h => by rw [show _ = [] from h]; rfl
  | _ :: _, _, 0, ⟨_, ws, e, _, t⟩ => by subst e; exact ⟨v, ws, rfl, r, t⟩
  | _ :: _, _, i + 1, ⟨u, ws, e, q, t⟩ => by subst e; exact ⟨u, ws.set i v, rfl, q, Reps.set r i t⟩
theorem Reps.append : ∀ {ds es : List PyData} {vs ws : List V}, Reps K H ds vs → Reps K H es ws → Reps K H (ds ++ es) (vs ++ ws)
  | [], _, _, _, h, t => by rw [show _ = [] from h]; exact t
  | _ :: _, _, _, ws, ⟨v, us, e, r, q⟩, t => by subst e; exact ⟨v, us ++ ws, rfl, r, Reps.append q t⟩
theorem Reps.take : ∀ {ds : List PyData} {vs : List V} (n : Nat), Reps K H ds vs → Reps K H (ds.take n) (vs.take n)
  | ds, vs, 0, _ => by simp [Reps]
  | [], _, _ + 1, h => by rw [show _ = [] from h]; simp [Reps]
  | _ :: _, _, n + 1, ⟨v, us, e, r, q⟩ => by subst e; exact ⟨v, us.take n, rfl, r, Reps.take n q⟩
theorem Reps.drop : ∀ {ds : List PyData} {vs : List V} (n : Nat), Reps K H ds vs → Reps K H (ds.drop n) (vs.drop n)
  | ds, vs, 0, h => h
  | [], _, _ + 1, h => by rw [show _ = [] from h]; simp [Reps]
  | _ :: _, _, n + 1, ⟨v, us, e, r, q⟩ => by subst e; exact Reps.drop n q
theorem Reps.reverse : ∀ {ds : List PyData} {vs : List V}, Reps K H ds vs → Reps K H ds.reverse vs.reverse
  | [], _, h => by rw [show _ = [] from h]; simp [Reps]
  | x :: xs, _, ⟨v, us, e, r, q⟩ => by
    subst e
    rw [List.reverse_cons, List.reverse_cons]
    exact (Reps.reverse q).append ⟨v, [], rfl, r, rfl⟩
theorem Reps.one {d : PyData} {v : V} (r : Rep K H d v) : Reps K H [d] [v] := ⟨v, [], rfl, r, rfl⟩
theorem Reps.ints : ∀ {ns : List Int} {vs : List V}, Reps K H (ns.map PyData.int) vs → vs = ns.map V.int
  | [], _, h => h
  | n :: ns, _, ⟨v, us, e, r, q⟩ => by
    subst e
    rw [Reps.ints q, show v = V.int n from r]; rfl
theorem Reps.of_ints : ∀ {ns : List Int}, Reps K H (ns.map PyData.int) (ns.map V.int)
  | [] => rfl
  | _ :: _ => ⟨_, _, rfl, rfl, Reps.of_ints⟩
theorem Reps.bools : ∀ {ns : List Bool} {vs : List V}, Reps K H (ns.map PyData.bool) vs → vs = ns.map V.bl
  | [], _, h => h
  | n :: ns, _, ⟨v, us, e, r, q⟩ => by
    subst e
    rw [Reps.bools q, show v = V.bl n from r]; rfl
end

/-! ### values, cells, frames -/
/-- a value: data, or the cell (a list that may change) at a place of the store -/
inductive PV where
  | d (x : PyData) | cel (i : Nat)
/-- a cell: a list that may change; one that may be read alone; a ledger (its dict's address, the coming number); a dict of items, and its address -/
inductive Cell where
  | lst (xs : List PyData) | frz (xs : List PyData) | led (d : Addr) (n : Int) | dic (d : Addr) (its : List (Int × PyData)) | fdi (ps : List (Int × Int))
abbrev Sto := List Cell
abbrev Rho := List (Option PV)
/-! the functions that the readings compute with: all of them reducible -/
@[reducible] def setR : Rho → Nat → Option PV → Rho
  | [], _, _ => []
  | _ :: r, 0, x => x :: r
  | y :: r, i + 1, x => y :: setR r i x
@[reducible] def snocS : Sto → Cell → Sto
  | [], c => [c]
  | y :: r, c => y :: snocS r c
@[reducible] def lenS : Sto → Nat
  | [] => .zero
  | _ :: r => .succ (lenS r)
@[reducible] def setS : Sto → Nat → Cell → Sto
  | [], _, _ => []
  | _ :: r, 0, x => x :: r
  | y :: r, i + 1, x => y :: setS r i x
@[reducible] def Br (c : Bool) (A B : Prop) : Prop := match c with
  | true => A
  | false => B
@[reducible] def bnot : Bool → Bool
  | true => false
  | false => true
theorem bnot_eq (b : Bool) : bnot b = !b := by cases b <;> rfl
theorem setR_eq : ∀ (ρ : Rho) (i : Nat) (x : Option PV), setR ρ i x = ρ.set i x
  | [], _, _ => by simp [setR]
  | _ :: _, 0, _ => by simp [setR]
  | _ :: r, i + 1, x => by simp [setR, setR_eq r i x]
theorem snocS_eq : ∀ (S : Sto) (x : Cell), snocS S x = S ++ [x]
  | [], _ => rfl
  | y :: r, x => by rw [snocS, snocS_eq r x]; rfl
theorem lenS_eq : ∀ S : Sto, lenS S = S.length
  | [] => rfl
  | _ :: r => by rw [lenS, lenS_eq r]; rfl
theorem setS_eq : ∀ (ρ : Sto) (i : Nat) (x : Cell), setS ρ i x = ρ.set i x
  | [], _, _ => by simp [setS]
  | _ :: _, 0, _ => by simp [setS]
  | _ :: r, i + 1, x => by simp [setS, setS_eq r i x]
theorem brB {c : Bool} {A B : Prop} (h1 : c = true → A) (h2 : c = false → B) : Br c A B := by
  cases c with
  | true => exact h1 rfl
  | false => exact h2 rfl
theorem brT {c : Bool} {A B : Prop} (hc : c = true) (h : A) : Br c A B := by subst hc; exact h
theorem brF {c : Bool} {A B : Prop} (hc : c = false) (h : B) : Br c A B := by subst hc; exact h
/-- a test by a decision -/
theorem brD {p : Prop} [Decidable p] {A B : Prop} (h1 : p → A) (h2 : ¬ p → B) : Br (decide p) A B := brB (fun h => h1 (of_decide_eq_true h)) fun h => h2 (of_decide_eq_false h)
theorem brN {p : Prop} [Decidable p] {A B : Prop} (h1 : ¬ p → A) (h2 : p → B) : Br (bnot (decide p)) A B := by
  by_cases h : p
  · exact brF (by rw [decide_eq_true h]) (h2 h)
  · exact brT (by rw [decide_eq_false h]) (h1 h)
def CellR (K : PySem.W.Frag) (H : Hp) : Cell → Addr → Prop
  | .lst xs, a => ∃ vs, H a = some (.lst vs) ∧ Reps K H xs vs
  | .frz xs, a => ∃ o vs, H a = some (.frz o (.lst vs)) ∧ Reps K H xs vs
  | .led d n, a => ∃ C dx, H a = some (.ins C dx [("present", .ref d), ("coming", .int n)]) ∧ PySem.W.nsIn K mainGlobals "Ledger" = some (some (.ref C))
  | .dic d its, a => a = d ∧ ∃ kvs, H a = some (.dK kvs) ∧ Paired (fun (p : Int × PyData) (q : L2.Key × V) => q.1 = Sum.inl p.1 ∧ Rep K H p.2 q.2) its kvs ∧ (its.map (·.1)).Nodup
  | .fdi ps, a => ∃ o, H a = some (.frz o (.dK (ps.map fun p => (Sum.inl p.1, V.int p.2))))
/-- what is tracked at a place where the heap is as it was -/
theorem CellR.move {K : PySem.W.Frag} {H H' : Hp} {x : Cell} {a : Addr} (h : CellR K H x a) (k : ∀ o, H a = some o → H' a = some o) (g : Ge H H') : CellR K H' x a := by
  cases x with
  | lst xs => obtain ⟨vs, e, r⟩ := h; exact ⟨vs, k _ e, Reps.mono g _ _ r⟩
  | frz xs => obtain ⟨o, vs, e, r⟩ := h; exact ⟨o, vs, k _ e, Reps.mono g _ _ r⟩
  | led d n => obtain ⟨C, dx, e, r⟩ := h; exact ⟨C, dx, k _ e, r⟩
  | fdi ps => obtain ⟨o, e⟩ := h; exact ⟨o, k _ e⟩
  | dic d its =>
    obtain ⟨z, vs, e, r, nd⟩ := h
    have r' : Paired (fun (p : Int × PyData) (q : L2.Key × V) => q.1 = Sum.inl p.1 ∧ Rep K H' p.2 q.2) its vs := by
      clear e nd
      induction r with
      | nil => exact .nil
      | cons q t ih => exact .cons ⟨q.1, Rep.mono g _ _ q.2⟩ ih
    exact ⟨z, vs, k _ e, r', nd⟩
theorem CellR.ob {K : PySem.W.Frag} {H : Hp} {x : Cell} {a : Addr} (h : CellR K H x a) : ∃ o, H a = some o := by
  cases x with
  | lst xs => obtain ⟨vs, e, r⟩ := h; exact ⟨_, e⟩
  | frz xs => obtain ⟨o, vs, e, r⟩ := h; exact ⟨_, e⟩
  | led d n => obtain ⟨C, dx, e, r⟩ := h; exact ⟨_, e⟩
  | dic d its => obtain ⟨z, vs, e, r, nd⟩ := h; exact ⟨_, e⟩
  | fdi ps => obtain ⟨o, e⟩ := h; exact ⟨_, e⟩
def RepP (K : PySem.W.Frag) (H : Hp) (μ : List Addr) : PV → V → Prop
  | .d x, v => Rep K H x v
  | .cel i, v => ∃ a, μ[i]? = some a ∧ v = .ref a
def SlotR (K : PySem.W.Frag) (H : Hp) (μ : List Addr) : Option PV → Option V → Prop
  | some p, some v => RepP K H μ p v
  | some _, none => False
  | none, _ => True
/-- a frame's own: the heap at its entry, what it may change of that -/
structure FP where
  H0 : Hp
  F0 : Addr → Prop
structure Fr (K : PySem.W.Frag) (c : FP) (μ : List Addr) (ρ : Rho) (S : Sto) (σ : L2.St) (H : Hp) : Prop where
  env : Paired (SlotR K H μ) ρ σ
  cel : Paired (CellR K H) S μ
  nd : μ.Nodup
  own : ∀ a ∈ μ, c.F0 a ∨ c.H0 a = none
  keep : ∀ b o, c.H0 b = some o → ¬ c.F0 b → H b = some o
/-- one list begins as the other -/
abbrev Pre (μ μ' : List Addr) : Prop := ∃ r, μ' = μ ++ r
theorem Pre.refl (μ : List Addr) : Pre μ μ := ⟨[], by simp⟩
theorem Pre.trans {a b c : List Addr} (x : Pre a b) (y : Pre b c) : Pre a c := by
  obtain ⟨r, rfl⟩ := x; obtain ⟨q, rfl⟩ := y; exact ⟨r ++ q, by simp⟩
theorem Pre.get {μ μ' : List Addr} (x : Pre μ μ') {i : Nat} {a : Addr} (h : μ[i]? = some a) : μ'[i]? = some a := by
  obtain ⟨r, rfl⟩ := x
  rw [List.getElem?_append_left (List.getElem?_eq_some_iff.mp h).1]; exact h
section
variable {K : PySem.W.Frag} {H H' : Hp} {μ μ' : List Addr}
theorem RepP.mono (g : Ge H H') (p : Pre μ μ') {x : PV} {v : V} (h : RepP K H μ x v) : RepP K H' μ' x v := by
  cases x with
  | d x => exact Rep.mono g x v h
  | cel i =>
    obtain ⟨a, h1, h2⟩ := h
    exact ⟨a, p.get h1, h2⟩
theorem SlotR.mono (g : Ge H H') (p : Pre μ μ') {x : Option PV} {v : Option V} (h : SlotR K H μ x v) : SlotR K H' μ' x v := by
  cases x with
  | none => trivial
  | some x => cases v with
    | none => exact h.elim
    | some v => exact RepP.mono g p h
theorem paired_get {α β : Type} {F : α → β → Prop} : ∀ {xs : List α} {ys : List β} {i : Nat} {x : α}, Paired F xs ys → xs[i]? = some x → ∃ y, ys[i]? = some y ∧ F x y
  | _, _, _, _, .nil, e => by simp at e
  | _, _, 0, _, .cons h _, e => by simp at e; subst e; exact ⟨_, rfl, h⟩
  | _, _, i + 1, _, .cons _ t, e => by
    obtain ⟨y, h1, h2⟩ := paired_get (i := i) t (by simpa using e)
    exact ⟨y, by simpa using h1, h2⟩
theorem paired_set {α β : Type} {F : α → β → Prop} {x : α} {y : β} (r : F x y) : ∀ {xs : List α} {ys : List β} (i : Nat), Paired F xs ys → Paired F (xs.set i x) (ys.set i y)
  | _, _, _, .nil => .nil
  | _, _, 0, .cons _ t => .cons r t
  | _, _, i + 1, .cons q t => .cons q (paired_set r i t)
theorem paired_imp {α β : Type} {F G : α → β → Prop} : ∀ {xs : List α} {ys : List β}, Paired F xs ys → (∀ x y, F x y → G x y) → Paired G xs ys
  | _, _, .nil, _ => .nil
  | _, _, .cons r t, f => .cons (f _ _ r) (paired_imp t f)
theorem paired_at {α β : Type} {F G : α → β → Prop} : ∀ {xs : List α} {ys : List β}, Paired F xs ys → (∀ (i : Nat) x y, xs[i]? = some x → ys[i]? = some y → F x y → G x y) → Paired G xs ys
  | _, _, .nil, _ => .nil
  | _, _, .cons r t, f => .cons (f 0 _ _ rfl rfl r) (paired_at t fun i x y h1 h2 => f (i + 1) x y (by simpa using h1) (by simpa using h2))
theorem paired_len {α β : Type} {F : α → β → Prop} : ∀ {xs : List α} {ys : List β}, Paired F xs ys → xs.length = ys.length
  | _, _, .nil => rfl
  | _, _, .cons _ t => by rw [List.length_cons, List.length_cons, paired_len t]
end
section
variable {K : PySem.W.Frag} {c : FP} {μ : List Addr} {ρ : Rho} {S : Sto} {σ : L2.St} {H H' : Hp}
theorem CellR.same (s : Same H H') {x : Cell} {a : Addr} (h : CellR K H x a) : CellR K H' x a := by
  exact h.move (fun o e => s _ _ e) (.of_same s)
/-- all that was tracked is as it was -/
theorem Fr.same (f : Fr K c μ ρ S σ H) (s : Same H H') : Fr K c μ ρ S σ H' :=
  ⟨paired_imp f.env fun _ _ h => SlotR.mono (.of_same s) (.refl _) h, paired_imp f.cel fun _ _ h => h.same s, f.nd, f.own, fun b o e n => s b o (f.keep b o e n)⟩
theorem Fr.set {i : Nat} {x : PV} {v : V} (f : Fr K c μ ρ S σ H) (r : RepP K H μ x v) : Fr K c μ (setR ρ i (some x)) S (σ.set i (some v)) H := by
  rw [setR_eq]
  exact ⟨paired_set (F := SlotR K H μ) (x := some x) (y := some v) r i f.env, f.cel, f.nd, f.own, f.keep⟩
theorem Fr.slot {i : Nat} {x : PV} (f : Fr K c μ ρ S σ H) (h : ρ[i]? = some (some x)) : ∃ v, σ[i]? = some (some v) ∧ RepP K H μ x v := by
  obtain ⟨y, h1, h2⟩ := paired_get f.env h
  cases y with
  | none => exact h2.elim
  | some v => exact ⟨v, h1, h2⟩
theorem Fr.at {i : Nat} {x : Cell} (f : Fr K c μ ρ S σ H) (h : S[i]? = some x) : ∃ a, μ[i]? = some a ∧ CellR K H x a := paired_get f.cel h
theorem Fr.notIn (f : Fr K c μ ρ S σ H) {p : Addr} (h : H p = none) : p ∉ μ := fun hp => by
  obtain ⟨i, hi⟩ := List.getElem?_of_mem hp
  have hl : i < S.length := by rw [paired_len f.cel]; exact (List.getElem?_eq_some_iff.mp hi).1
  obtain ⟨a, h1, h2⟩ := f.at (List.getElem?_eq_getElem hl)
  rw [hi] at h1; cases h1
  obtain ⟨o, e⟩ := h2.ob
  rw [h] at e; cases e
theorem Fr.noH0 (f : Fr K c μ ρ S σ H) {p : Addr} (h : H p = none) : c.F0 p ∨ c.H0 p = none := by
  by_cases hp : c.F0 p
  · exact .inl hp
  · refine .inr ?_
    cases q : c.H0 p with
    | none => rfl
    | some o => rw [f.keep p o q hp] at h; cases h
/-- a new list becomes a cell -/
theorem Fr.newCell {p : Addr} {xs : List PyData} {vs : List V} (f : Fr K c μ ρ S σ H) (h : H p = some (.lst vs)) (hp : p ∉ μ) (ho : c.F0 p ∨ c.H0 p = none) (r : Reps K H xs vs) : Fr K c (μ ++ [p]) ρ (snocS S (.lst xs)) σ H := by
  rw [snocS_eq]
  refine ⟨paired_imp f.env fun _ _ z => SlotR.mono (.refl _) ⟨[p], rfl⟩ z, f.cel.snoc ⟨vs, h, r⟩, ?_, ?_, f.keep⟩
  · rw [List.nodup_append]
    refine ⟨f.nd, by simp, fun a ha b hb z => ?_⟩
    have e : b = p := by simpa using hb
    subst e; subst z
    exact hp ha
  · intro a ha
    rcases List.mem_append.mp ha with ha | ha
    · exact f.own a ha
    · have e : a = p := by simpa using ha
      subst e
      exact ho
/-- one cell's object is changed, all else is as it was -/
theorem Fr.put {i : Nat} {a : Addr} {y : Cell} (f : Fr K c μ ρ S σ H) (ha : μ[i]? = some a) (k : ∀ b o, H b = some o → b ≠ a → H' b = some o) (g : Ge H H') (r : CellR K H' y a) : Fr K c μ ρ (setS S i y) σ H' := by
  rw [setS_eq]
  have keepC : ∀ (j : Nat) x b, S[j]? = some x → μ[j]? = some b → j ≠ i → CellR K H x b → CellR K H' x b := fun j x b e1 e2 hj q => by
    have hb : b ≠ a := fun z => by
      subst z
      obtain ⟨b1, c1⟩ := List.getElem?_eq_some_iff.mp e2
      obtain ⟨b2, c2⟩ := List.getElem?_eq_some_iff.mp ha
      exact hj ((List.getElem_inj f.nd).mp (c1.trans c2.symm))
    exact q.move (fun o e => k _ _ e hb) g
  have cells : ∀ (T : Sto) (m : List Addr) (n : Nat), Paired (CellR K H) T m → (∀ (j : Nat) x b, T[j]? = some x → m[j]? = some b → j ≠ n → CellR K H x b → CellR K H' x b) → (∀ b, m[n]? = some b → CellR K H' y b) → Paired (CellR K H') (T.set n y) m := by
    intro T m n p
    induction p generalizing n with
    | nil => intro _ _; exact .nil
    | cons q t ih =>
      intro k1 k2
      cases n with
      | zero =>
        refine .cons (k2 _ rfl) (paired_at t fun j x b e1 e2 z => k1 (j + 1) x b (by simpa using e1) (by simpa using e2) (by omega) z)
      | succ n =>
        exact .cons (k1 0 _ _ rfl rfl (by omega) q) (ih n (fun j x b e1 e2 hj z => k1 (j + 1) x b (by simpa using e1) (by simpa using e2) (by omega) z) fun b hb => k2 b (by simpa using hb))
  refine ⟨paired_imp f.env fun _ _ z => SlotR.mono g (.refl _) z, cells S μ i f.cel keepC fun b hb => ?_, f.nd, f.own, fun b ob e n => ?_⟩
  · rw [ha] at hb; cases hb; exact r
  · have hb : b ≠ a := fun z => by
      subst z
      rcases f.own b (List.mem_of_getElem? ha) with z | z
      · exact n z
      · rw [z] at e; cases e
    exact k b ob (f.keep b ob e n) hb
/-- a cell's list is changed -/
theorem Fr.write {i : Nat} {a : Addr} {o : HO} {xs : List PyData} {y : Cell} (f : Fr K c μ ρ S σ H) (h : S[i]? = some (.lst xs)) (ha : μ[i]? = some a) (r : CellR K (upd H a o) y a) : Fr K c μ ρ (setS S i y) σ (upd H a o) ∧ Ge H (upd H a o) := by
  obtain ⟨a', h1, vs, h2, _⟩ := f.at h
  rw [ha] at h1; cases h1
  have g : Ge H (upd H a o) := .put h2
  exact ⟨f.put ha (fun b ob e hb => by rw [upd_ne hb]; exact e) g r, g⟩
/-- the frame as one of its own -/
theorem Fr.sub (f : Fr K c μ ρ S σ H) : Fr K ⟨H, fun a => a ∈ μ⟩ μ ρ S σ H := ⟨f.env, f.cel, f.nd, fun _ h => .inl h, fun _ _ e _ => e⟩
theorem Fr.back {μ' : List Addr} {ρ' : Rho} {S' : Sto} {σ' : L2.St} (f : Fr K c μ ρ S σ H) (f' : Fr K ⟨H, fun a => a ∈ μ⟩ μ' ρ' S' σ' H') : Fr K c μ' ρ' S' σ' H' := by
  refine ⟨f'.env, f'.cel, f'.nd, fun a ha => ?_, fun b o e n => ?_⟩
  · rcases f'.own a ha with z | z
    · exact f.own a z
    · exact f.noH0 z
  · refine f'.keep b o (f.keep b o e n) fun hb => ?_
    rcases f.own b hb with z | z
    · exact n z
    · rw [z] at e; cases e
/-- the same cells, other slots -/
theorem Fr.slots {ρ' : Rho} {σ' : L2.St} (f : Fr K c μ ρ S σ H) (h : Paired (SlotR K H μ) ρ' σ') : Fr K c μ ρ' S σ' H := ⟨h, f.cel, f.nd, f.own, f.keep⟩
/-- slots forgotten, cells forgotten from the end -/
@[reducible] def okC (n : Nat) : Option PV → Prop
  | some (.cel i) => i < n
  | _ => True
/-- a name of a locked list may name its items -/
def FzS (S : Sto) (x y : Option PV) : Prop := ∃ i xs, x = some (.cel i) ∧ S[i]? = some (Cell.frz xs) ∧ y = some (.d (.list xs))
@[reducible] def Wk (S : Sto) (n : Nat) : Rho → Rho → Prop
  | [], [] => True
  | x :: r, y :: s => (y = none ∨ (y = x ∧ okC n y) ∨ FzS S x y) ∧ Wk S n r s
  | _, _ => False
def WkS (b : Nat) (ρ : Rho) (S : Sto) (ρ' : Rho) (S' : Sto) : Prop := b ≤ lenS S' ∧ Wk S (lenS S') ρ ρ' ∧ ∃ rest, S = S' ++ rest
theorem Wk.env {n : Nat} {μ : List Addr} {S : Sto} (cel : ∀ (i : Nat) (xs : List PyData) (a : Addr), S[i]? = some (Cell.frz xs) → μ[i]? = some a → ∃ o vs, H a = some (HO.frz o (.lst vs)) ∧ Reps K H xs vs) : ∀ {ρ ρ' : Rho} {σ : L2.St}, Wk S n ρ ρ' → Paired (SlotR K H μ) ρ σ → Paired (SlotR K H (μ.take n)) ρ' σ
  | [], [], _, _, h => by cases h; exact .nil
  | x :: r, y :: s, _, w, h => by
    cases h with
    | cons q t =>
      refine .cons ?_ (Wk.env cel w.2 t)
      rcases w.1 with z | ⟨z, ok⟩ | ⟨i, xs, z1, z2, z3⟩
      · subst z; trivial
      · subst z
        cases y with
        | none => trivial
        | some p => rename_i v _; cases v with
          | none => exact q
          | some v => cases p with
            | d x => exact q
            | cel i =>
              obtain ⟨a, ha, e⟩ := q
              exact ⟨a, by rw [List.getElem?_take_of_lt ok]; exact ha, e⟩
      · subst z1; subst z3
        rename_i v _
        cases v with
        | none => exact q
        | some v =>
          obtain ⟨a, ha, e⟩ := q
          subst e
          obtain ⟨o, vs, e, rr⟩ := cel i xs a z2 ha
          exact ⟨a, vs, rfl, .inl ⟨o, e⟩, rr⟩
  | [], _ :: _, _, w, _ => w.elim
  | _ :: _, [], _, w, _ => w.elim
theorem paired_take {α β : Type} {F : α → β → Prop} : ∀ {xs ys : List α} {zs : List β}, Paired F (xs ++ ys) zs → Paired F xs (zs.take xs.length)
  | [], _, _, _ => by simp; exact .nil
  | _ :: _, _, _, .cons q t => .cons q (paired_take t)
theorem Fr.wk {b : Nat} {ρ' : Rho} {S' : Sto} (f : Fr K c μ ρ S σ H) (w : WkS b ρ S ρ' S') : Fr K c (μ.take (lenS S')) ρ' S' σ H := by
  obtain ⟨_, w, rest, e⟩ := w
  refine ⟨w.env (fun i xs a h1 h2 => by
    obtain ⟨a', e, cr⟩ := f.at h1
    rw [h2] at e; cases e
    exact cr) f.env, ?_, f.nd.sublist (List.take_sublist _ _), fun a ha => f.own a (List.mem_of_mem_take ha), f.keep⟩
  rw [lenS_eq]
  exact paired_take (ys := rest) (by rw [← e]; exact f.cel)
theorem Pre.take {μ1 : List Addr} (p : Pre μ1 μ) {n : Nat} (h : μ1.length ≤ n) : Pre μ1 (μ.take n) := by
  obtain ⟨r, rfl⟩ := p
  exact ⟨r.take (n - μ1.length), by rw [List.take_append, List.take_of_length_le h]⟩
end
end Pu

set_option autoImplicit false
namespace Pu
open PySem PySem.Spec PyProof.Rows L2

/-! ### the judgements over values without addresses -/
abbrev PQ := PV → Sto → Prop
abbrev TEp := Rho → Sto → PQ → Prop
abbrev TTp := Rho → Sto → (Bool → Sto → Prop) → Prop
abbrev TAp := Rho → Sto → (List PV → Sto → Prop) → Prop
abbrev TNp := Rho → Sto → (List PyData → Sto → Prop) → Prop
section
variable (K : PySem.W.Frag) (c : FP)
def Ret (R : PQ) (μ : List Addr) (ρ : Rho) (σ : L2.St) (H : Hp) (Q : VK) : Prop :=
  ∀ pv S', R pv S' → ∀ μ' v H', Pre μ μ' → Fr K c μ' ρ S' σ H' → RepP K H' μ' pv v → Ge H H' → Q v H'
def RetT (R : Bool → Sto → Prop) (μ : List Addr) (ρ : Rho) (σ : L2.St) (H : Hp) (Q : Bool → Hp → Prop) : Prop :=
  ∀ b S', R b S' → ∀ μ' H', Pre μ μ' → Fr K c μ' ρ S' σ H' → Ge H H' → Q b H'
def RetA (n : Nat) (R : List PV → Sto → Prop) (μ : List Addr) (ρ : Rho) (σ : L2.St) (H : Hp) (Q : List V → Hp → Prop) : Prop :=
  ∀ pvs S', R pvs S' → pvs.length = n → ∀ μ' vs H', Pre μ μ' → Fr K c μ' ρ S' σ H' → Paired (RepP K H' μ') pvs vs → Ge H H' → Q vs H'
/-- a new list that nobody else holds -/
def RetN (R : List PyData → Sto → Prop) (μ : List Addr) (ρ : Rho) (σ : L2.St) (H : Hp) (Q : VK) : Prop :=
  ∀ xs S', R xs S' → ∀ μ' p vs H', Pre μ μ' → Fr K c μ' ρ S' σ H' → H' p = some (.lst vs) → p ∉ μ' → (c.F0 p ∨ c.H0 p = none) → Reps K H' xs vs → Ge H H' → Q (.ref p) H'
def up (t : TEp) : TE := fun σ H Q => ∃ μ ρ S R, Fr K c μ ρ S σ H ∧ t ρ S R ∧ Ret K c R μ ρ σ H Q
def upT (t : TTp) : TT := fun σ H Q => ∃ μ ρ S R, Fr K c μ ρ S σ H ∧ t ρ S R ∧ RetT K c R μ ρ σ H Q
def upA (n : Nat) (t : TAp) : TA := fun σ H Q => ∃ μ ρ S R, Fr K c μ ρ S σ H ∧ t ρ S R ∧ RetA K c n R μ ρ σ H Q
def upN (t : TNp) : TE := fun σ H Q => ∃ μ ρ S R, Fr K c μ ρ S σ H ∧ t ρ S R ∧ RetN K c R μ ρ σ H Q
end
structure WE (X : Cx) (e : Expr) (t : TEp) : Prop where
  pe : ∀ c, PE X e (up X.K c t)
structure WT (X : Cx) (e : Expr) (t : TTp) : Prop where
  pt : ∀ c, PT X e (upT X.K c t)
structure WW (X : Cx) (e : Expr) (t : TTp) : Prop where
  pw : ∀ c, PW X e (upT X.K c t)
structure WA (X : Cx) (es : List Expr) (n : Nat) (t : TAp) : Prop where
  pa : ∀ c, PA X es (upA X.K c n t)
structure WN (X : Cx) (e : Expr) (t : TNp) : Prop where
  pe : ∀ c, PE X e (upN X.K c t)
section
variable {X : Cx} {e : Expr}
theorem pe_w {t t' : TE} (h : PE X e t) (w : ∀ σ H Q, t' σ H Q → t σ H Q) : PE X e t' := ⟨fun pins s σ H Q I q => h.run pins s σ H Q I (w σ H Q q)⟩
theorem pt_w {t t' : TT} (h : PT X e t) (w : ∀ σ H Q, t' σ H Q → t σ H Q) : PT X e t' := ⟨fun pins s σ H Q I q => h.run pins s σ H Q I (w σ H Q q)⟩
theorem pw_w {t t' : TT} (h : PW X e t) (w : ∀ σ H Q, t' σ H Q → t σ H Q) : PW X e t' := ⟨fun wh pins s σ H Q I q => h.run wh pins s σ H Q I (w σ H Q q)⟩
theorem pa_w {es : List Expr} {t t' : TA} (h : PA X es t) (w : ∀ σ H Q, t' σ H Q → t σ H Q) : PA X es t' := ⟨fun pos pins s σ H Q I q => h.run pos pins s σ H Q I (w σ H Q q)⟩
/-- a list is locked from here on: nobody will write it -/
theorem Inv.lock {pins : List (Addr × Obj)} {σ : L2.St} {H : Hp} {s : Shared} {a : Addr} {vs : List V} (I : Inv X pins σ H s) (h : H a = some (.lst vs)) : ∃ o, Inv X pins σ (upd H a (.frz o (.lst vs))) s := by
  obtain ⟨z, its, n, r, e⟩ := I.hok a _ h
  refine ⟨{ cls := .type "list", data := .seq its.toArray n }, ?_⟩
  have w := I.write (x := a) (e := a) (o := .frz { cls := .type "list", data := .seq its.toArray n } (.lst vs)) (h' := s.heap) (t' := s.toks) (by rw [h]; trivial) (.inl rfl) (fun _ _ _ q => q) ⟨_, e⟩ ⟨e, z, its, n, r, e⟩
  exact w
theorem pe_freeze {t : TE} (h : PE X e t) : PE X e (fun σ H Q => t σ H fun v H1 => Q v H1 ∨ ∃ a vs, v = .ref a ∧ H1 a = some (.lst vs) ∧ ∀ o, Q v (upd H1 a (.frz o (.lst vs)))) := by
  refine ⟨fun pins s σ H Q I q => thn (h.run pins s σ H _ I q) fun u s1 ⟨v, H1, I1, r, q1⟩ => ?_⟩
  rcases q1 with q1 | ⟨a, vs, rfl, ha, q1⟩
  · exact ⟨v, H1, I1, r, q1⟩
  · obtain ⟨o, I2⟩ := Inv.lock I1 ha
    exact ⟨.ref a, _, I2, r, q1 o⟩
end

/-! ### slots, views -/
@[reducible] def sltAt : Rho → Nat → Option PV
  | [], _ => none
  | x :: _, 0 => x
  | _ :: r, i + 1 => sltAt r i
theorem sltAt_get : ∀ {ρ : Rho} {i : Nat} {pv : PV}, sltAt ρ i = some pv → ρ[i]? = some (some pv)
  | [], _, _, h => by simp [sltAt] at h
  | _ :: _, 0, _, h => by simpa [sltAt] using h
  | _ :: r, i + 1, _, h => by simpa using sltAt_get (ρ := r) (i := i) (by simpa [sltAt] using h)
@[reducible] def cellAt : Sto → Nat → Option Cell
  | [], _ => none
  | x :: _, 0 => some x
  | _ :: r, i + 1 => cellAt r i
theorem cellAt_get : ∀ (S : Sto) (i : Nat), cellAt S i = S[i]?
  | [], _ => by simp [cellAt]
  | _ :: _, 0 => by simp [cellAt]
  | _ :: r, i + 1 => by simpa [cellAt] using cellAt_get r i
/-- what is read there: data; a list cell's list -/
@[reducible] def vw (S : Sto) : PV → Option PyData
  | .d x => some x
  | .cel i => match cellAt S i with
    | some (.lst xs) => some (.list xs)
    | some (.frz xs) => some (.list xs)
    | _ => none
/-- as Rep, but the list at the top may be one that changes later -/
def RepR (K : PySem.W.Frag) (H : Hp) (d : PyData) (v : V) : Prop := match d with
  | .list xs => ∃ a vs, v = .ref a ∧ RdL K H a vs ∧ Reps K H xs vs
  | d => Rep K H d v
theorem Rep.read {K : PySem.W.Frag} {H : Hp} : ∀ {d : PyData} {v : V}, Rep K H d v → RepR K H d v
  | .list xs, _, ⟨a, vs, e, s, r⟩ => ⟨a, vs, e, .inr s, r⟩
  | .none, _, h => h
  | .bool _, _, h => h
  | .int _, _, h => h
  | .str _, _, h => h
  | .tuple _, _, h => h
  | .dict _, _, h => h
section
variable {K : PySem.W.Frag} {c : FP} {μ : List Addr} {ρ : Rho} {S : Sto} {σ : L2.St} {H : Hp}
theorem vw_rep (f : Fr K c μ ρ S σ H) {x : PV} {v : V} {d : PyData} (r : RepP K H μ x v) (h : vw S x = some d) : RepR K H d v := by
  cases x with
  | d x => simp only [vw, Option.some.injEq] at h; subst h; exact Rep.read r
  | cel i =>
    obtain ⟨a, ha, rfl⟩ := r
    simp only [vw, cellAt_get] at h
    cases q : S[i]? with
    | none => rw [q] at h; simp at h
    | some y =>
      obtain ⟨a', e, cr⟩ := f.at q
      rw [ha] at e; cases e
      rw [q] at h
      cases y with
      | lst xs =>
        simp only [Option.some.injEq] at h; subst h
        obtain ⟨vs, e, r⟩ := cr
        exact ⟨a, vs, rfl, .inl e, r⟩
      | frz xs =>
        simp only [Option.some.injEq] at h; subst h
        obtain ⟨o, vs, e, r⟩ := cr
        exact ⟨a, vs, rfl, .inr (.inl ⟨o, e⟩), r⟩
      | led d n => simp at h
      | dic d its => simp at h
      | fdi ps => simp at h
theorem Reps.read {ds : List PyData} {vs : List V} (h : Reps K H ds vs) : Paired (RepR K H) ds vs := by
  induction ds generalizing vs with
  | nil => rw [show vs = [] from h]; exact .nil
  | cons d ds ih => obtain ⟨v, ws, rfl, r, t⟩ := h; exact .cons r.read (ih t)
end

/-! ### names and constants -/
section
variable {X : Cx}
@[reducible] def tVr (i : Nat) : TEp := fun ρ S R => match sltAt ρ i with
  | some pv => R pv S
  | none => False
@[reducible] def tCo (d : PyData) : TEp := fun _ S R => R (.d d) S
theorem w_var (i : Nat) {x : Str} {pos : Pos} (hN : X.N[i]? = some x := by rfl) (hv : Vis X.env.scope x := by first | exact Or.inl rfl | exact Or.inr (Or.inl rfl) | exact Or.inr (Or.inr rfl)) (hd : (x == ("__debug__" : Str)) = false := by decide)
    (hcd : (x == ("__classdict__" : Str)) = false := by decide) : WE X (.Name x pos) (tVr i) := by
  refine ⟨fun c => pe_w (pv i hN hv hd hcd) fun σ H Q ⟨μ, ρ, S, R, f, h, q⟩ => ?_⟩
  unfold tVr at h
  split at h
  · rename_i pv e
    obtain ⟨v, hv, r⟩ := f.slot (sltAt_get e)
    exact ⟨v, hv, q pv S h μ v H (.refl _) f r (.refl _)⟩
  · exact h.elim
theorem w_co {e : Expr} {v : V} {d : PyData} (h : PE X e (tC v)) (r : ∀ H, Rep X.K H d v) : WE X e (tCo d) :=
  ⟨fun c => pe_w h fun σ H Q ⟨μ, ρ, S, R, f, h, q⟩ => q _ S h μ v H (.refl _) f (r H) (.refl _)⟩
theorem w_int {i j pos} : WE X (.Constant (.int i) j pos) (tCo (.int i)) := w_co pe_int fun _ => rfl
theorem w_bl {b j pos} : WE X (.Constant (.bool b) j pos) (tCo (.bool b)) := w_co pe_bl fun _ => rfl
theorem w_non {j pos} : WE X (.Constant .none j pos) (tCo .none) := w_co pe_non fun _ => rfl
theorem w_str {x j pos} : WE X (.Constant (.str x) j pos) (tCo (.str x)) := w_co pe_str fun _ => rfl

/-! ### operators on data -/
abbrev OpD := PyData → PyData → (PyData → Prop) → Prop
/-- how a rule over addresses goes on -/
structure RetD (K : PySem.W.Frag) (H : Hp) (k : PyData → Prop) (Q : VK) : Prop where
  val : ∀ r v H', k r → Rep K H' r v → Same H H' → Q v H'
  new : ∀ xs p vs, k (.list xs) → H p = none → Reps K H xs vs → Q (.ref p) (upd H p (.lst vs))
def OpdOk (K : PySem.W.Frag) (r : R2) (p : OpD) : Prop := ∀ (H : Hp) (a b : PyData) (va vb : V) (k : PyData → Prop) (Q : VK), RepR K H a va → RepR K H b vb → p a b k → RetD K H k Q → r va vb H Q
@[reducible] def tBin (p : OpD) (ta tb : TEp) : TEp := fun ρ S R => ta ρ S fun x S1 => tb ρ S1 fun y S2 => match vw S2 x, vw S2 y with
  | some a, some b => p a b fun r => R (.d r) S2
  | _, _ => False
@[reducible] def tUnp (p : PyData → (PyData → Prop) → Prop) (ta : TEp) : TEp := fun ρ S R => ta ρ S fun x S1 => match vw S1 x with
  | some a => p a fun r => R (.d r) S1
  | none => False
/-- how data and new lists are handed on, once more -/
abbrev Fz (Q : VK) : VK := fun v H1 => Q v H1 ∨ ∃ a vs, v = .ref a ∧ H1 a = some (.lst vs) ∧ ∀ o, Q v (upd H1 a (.frz o (.lst vs)))
theorem retD_of {c : FP} {μ0 μ : List Addr} {ρ : Rho} {S : Sto} {σ : L2.St} {H0 H : Hp} {R : PQ} {Q : VK} (f : Fr X.K c μ ρ S σ H) (q : Ret X.K c R μ0 ρ σ H0 Q) (p : Pre μ0 μ) (g : Ge H0 H) :
    RetD X.K H (fun r => R (.d r) S) (Fz Q) where
  val := fun r v H' hk rep same => .inl (q (.d r) S hk μ v H' p (f.same same) rep (g.trans (.of_same same)))
  new := fun xs a vs hk hn reps => .inr ⟨a, vs, rfl, upd_same, fun o => by
    rw [upd_upd]
    exact q (.d (.list xs)) S hk μ (.ref a) _ p (f.same (same_new hn)) ⟨a, vs, rfl, .inl ⟨o, upd_same⟩, Reps.mono (.new hn) _ _ reps⟩ (g.trans (.new hn))⟩
variable {a b : Expr} {ta tb : TEp} {pos : Pos}
theorem bin_up {r : R2} {p : OpD} (hp : OpdOk X.K r p) {c : FP} {σ : L2.St} {H : Hp} {Q : VK} (h : up X.K c (tBin p ta tb) σ H Q) : tOp r (up X.K c ta) (up X.K c tb) σ H (Fz Q) := by
  obtain ⟨μ, ρ, S, R, f, h, q⟩ := h
  refine ⟨μ, ρ, S, _, f, h, fun x S1 h1 μ1 v1 H1 p1 f1 r1 g1 => ⟨μ1, ρ, S1, _, f1, h1, fun y S2 h2 μ2 v2 H2 p2 f2 r2 g2 => ?_⟩⟩
  split at h2
  · rename_i d e e1 e2
    exact hp H2 d e v1 v2 _ _ (vw_rep f2 (r1.mono g2 p2) e1) (vw_rep f2 r2 e2) h2 (retD_of f2 q (p1.trans p2) (g1.trans g2))
  · exact h2.elim
theorem w_bin {op : Operator} {r : R2} {p : OpD} (ho : OpR X (binaryOp op) r) (hp : OpdOk X.K r p) (ha : WE X a ta) (hb : WE X b tb) : WE X (.BinOp a op b pos) (tBin p ta tb) :=
  ⟨fun c => pe_w (pe_freeze (pe_op ho (ha.pe c) (hb.pe c))) fun _ _ _ h => bin_up hp h⟩
theorem w_cmp {op : CmpOp} {r : R2} {p : OpD} (ho : OpR X (compareOp op) r) (hp : OpdOk X.K r p) (ha : WE X a ta) (hb : WE X b tb) (hm : behindInMarks op b = false) : WE X (.Compare a [op] [b] pos) (tBin p ta tb) :=
  ⟨fun c => pe_w (pe_freeze (pe_cmpR ho (ha.pe c) (hb.pe c) hm)) fun _ _ _ h => bin_up hp h⟩
@[reducible] def tTst (t : TEp) : TTp := fun ρ S R => t ρ S fun x S1 => match x with
  | .d (.bool b) => R b S1
  | _ => False
theorem tst_up {t : TEp} {c : FP} {μ : List Addr} {ρ : Rho} {S : Sto} {σ : L2.St} {H : Hp} {R : Bool → Sto → Prop} {Q : Bool → Hp → Prop} (f : Fr X.K c μ ρ S σ H) (h : tTst t ρ S R) (q : RetT X.K c R μ ρ σ H Q) :
    up X.K c t σ H (fun x H1 => ∃ k, x = .bl k ∧ Q k H1) := by
  refine ⟨μ, ρ, S, _, f, h, fun x S1 h1 μ1 v1 H1 p1 f1 r1 g1 => ?_⟩
  split at h1
  · rename_i b
    exact ⟨b, r1, q b S1 h1 μ1 H1 p1 f1 g1⟩
  · exact h1.elim
theorem w_tcmp {op : CmpOp} {r : R2} {p : OpD} (ho : OpR X (compareOp op) r) (hp : OpdOk X.K r p) (hr : ∀ x y H Q Q', (∀ v H1, Q v H1 → Q' v H1) → r x y H Q → r x y H Q') (ha : WE X a ta) (hb : WE X b tb) (hm : behindInMarks op b = false) : WT X (.Compare a [op] [b] pos) (tTst (tBin p ta tb)) := by
  refine ⟨fun c => pt_w (pt_cmpR ho (ha.pe c) (hb.pe c) hm) fun σ H Q ⟨μ, ρ, S, R, f, h, q⟩ => ?_⟩
  have u := tst_up f h q
  obtain ⟨μ, ρ, S, R, f, h, q⟩ := bin_up hp u
  refine ⟨μ, ρ, S, R, f, h, fun pv S' r1 μ' v H' p' f' rp g' => ?_⟩
  obtain ⟨μ, ρ, S, R, f, h, q⟩ := q pv S' r1 μ' v H' p' f' rp g'
  refine ⟨μ, ρ, S, R, f, h, fun pv S' r1 μ' v H' p' f' rp g' => ?_⟩
  refine hr _ _ _ _ _ (fun v H1 z => ?_) (q pv S' r1 μ' v H' p' f' rp g')
  rcases z with z | ⟨a, vs, rfl, _, z⟩
  · exact z
  · obtain ⟨k, e, _⟩ := z { cls := .none, data := .fields #[] }
    cases e
/-- an expression whose value is True or False, as a test -/
theorem w_val {e : Expr} {t : TEp} (h : WE X e t) (he : ∀ whole, isTrue e X.env whole = (do let v ← whole; standAt e.pos; holding [v] (truthy v)) := by intro _; rfl) : WT X e (tTst t) :=
  ⟨fun c => pt_w (pt_val (h.pe c) he) fun _ _ _ ⟨_, _, _, _, f, h, q⟩ => tst_up f h q⟩
theorem w_un {op : UnaryOp} {r : V → Hp → VK → Prop} {p : PyData → (PyData → Prop) → Prop} (ho : UnR X (unaryOp op) r) (hp : ∀ (H : Hp) (a : PyData) (va : V) (k : PyData → Prop) (Q : VK), RepR X.K H a va → p a k → RetD X.K H k Q → r va H Q) (ha : WE X a ta) : WE X (.UnaryOp op a pos) (tUnp p ta) := by
  refine ⟨fun c => pe_w (pe_freeze (pe_un ho (ha.pe c))) fun σ H Q ⟨μ, ρ, S, R, f, h, q⟩ => ?_⟩
  refine ⟨μ, ρ, S, _, f, h, fun x S1 h1 μ1 v1 H1 p1 f1 r1 g1 => ?_⟩
  split at h1
  · rename_i d e1
    exact hp H1 d v1 _ _ (vw_rep f1 r1 e1) h1 (retD_of f1 q p1 g1)
  · exact h1.elim

/-! ### and, or, not, if else -/
variable {tA tB' : TTp} {rest : List Expr}
@[reducible] def tAn (t u : TTp) : TTp := fun ρ S R => t ρ S fun c S1 => Br c (u ρ S1 R) (R false S1)
@[reducible] def tOrr (t u : TTp) : TTp := fun ρ S R => t ρ S fun c S1 => Br c (R true S1) (u ρ S1 R)
@[reducible] def tNo (t : TTp) : TTp := fun ρ S R => t ρ S fun c S1 => R (bnot c) S1
theorem WW.wt {e : Expr} {t : TTp} (h : WW X e t) : WT X e t := ⟨fun c => (h.pw c).pt⟩
theorem ww_and1 (ha : WT X a tA) : WW X (.BoolOp .And [a] pos) tA := ⟨fun c => pw_and1 (ha.pt c)⟩
theorem ww_or1 (ha : WT X a tA) : WW X (.BoolOp .Or [a] pos) tA := ⟨fun c => pw_or1 (ha.pt c)⟩
theorem ww_and (ha : WT X a tA) (hb : WW X (.BoolOp .And (b :: rest) pos) tB') : WW X (.BoolOp .And (a :: b :: rest) pos) (tAn tA tB') := by
  refine ⟨fun c => pw_w (pw_and (ha.pt c) (hb.pw c)) fun σ H Q ⟨μ, ρ, S, R, f, h, q⟩ => ?_⟩
  refine ⟨μ, ρ, S, _, f, h, fun k S1 h1 μ1 H1 p1 f1 g1 => ?_⟩
  cases k with
  | true => exact iteT ⟨μ1, ρ, S1, R, f1, h1, fun k2 S2 h2 μ2 H2 p2 f2 g2 => q k2 S2 h2 μ2 H2 (p1.trans p2) f2 (g1.trans g2)⟩
  | false => exact iteF (q false S1 (h1) μ1 H1 p1 f1 g1)
theorem ww_or (ha : WT X a tA) (hb : WW X (.BoolOp .Or (b :: rest) pos) tB') : WW X (.BoolOp .Or (a :: b :: rest) pos) (tOrr tA tB') := by
  refine ⟨fun c => pw_w (pw_or (ha.pt c) (hb.pw c)) fun σ H Q ⟨μ, ρ, S, R, f, h, q⟩ => ?_⟩
  refine ⟨μ, ρ, S, _, f, h, fun k S1 h1 μ1 H1 p1 f1 g1 => ?_⟩
  cases k with
  | true => exact iteT (q true S1 (h1) μ1 H1 p1 f1 g1)
  | false => exact iteF ⟨μ1, ρ, S1, R, f1, h1, fun k2 S2 h2 μ2 H2 p2 f2 g2 => q k2 S2 h2 μ2 H2 (p1.trans p2) f2 (g1.trans g2)⟩
theorem wt_not (ha : WT X a tA) : WT X (.UnaryOp .Not a pos) (tNo tA) := by
  refine ⟨fun c => pt_w (pt_not (ha.pt c)) fun σ H Q ⟨μ, ρ, S, R, f, h, q⟩ => ?_⟩
  exact ⟨μ, ρ, S, _, f, h, fun k S1 h1 μ1 H1 p1 f1 g1 => by
    show Q (!k) H1
    rw [← bnot_eq k]; exact q _ S1 h1 μ1 H1 p1 f1 g1⟩
/-- .. as values -/
@[reducible] def tAnV (ta tb : TEp) : TEp := fun ρ S R => ta ρ S fun x S1 => match x with
  | .d (.bool c) => Br c (tb ρ S1 R) (R (.d (.bool false)) S1)
  | _ => False
@[reducible] def tOrV' (ta tb : TEp) : TEp := fun ρ S R => ta ρ S fun x S1 => match x with
  | .d (.bool c) => Br c (R (.d (.bool true)) S1) (tb ρ S1 R)
  | _ => False
@[reducible] def tNoV (ta : TEp) : TEp := fun ρ S R => ta ρ S fun x S1 => match x with
  | .d (.bool c) => R (.d (.bool (bnot c))) S1
  | _ => False
theorem we_one {op} {t : TEp} (h : WE X a t) : WE X (.BoolOp op [a] pos) t := ⟨fun c => pe_one (h.pe c)⟩
theorem Ret.sub {c : FP} {μ μ1 : List Addr} {ρ : Rho} {σ : L2.St} {H H1 : Hp} {R : PQ} {Q : VK} (q : Ret X.K c R μ ρ σ H Q) (p1 : Pre μ μ1) (g1 : Ge H H1) : Ret X.K c R μ1 ρ σ H1 Q :=
  fun x S' h μ' v H' p f r g => q x S' h μ' v H' (p1.trans p) f r (g1.trans g)
theorem we_and (ha : WE X a ta) (hb : WE X (.BoolOp .And (b :: rest) pos) tb) : WE X (.BoolOp .And (a :: b :: rest) pos) (tAnV ta tb) := by
  refine ⟨fun c => pe_w (pe_and (ha.pe c) (hb.pe c)) fun σ H Q ⟨μ, ρ, S, R, f, h, q⟩ => ?_⟩
  refine ⟨μ, ρ, S, _, f, h, fun x S1 h1 μ1 v1 H1 p1 f1 r1 g1 => ?_⟩
  split at h1
  · rename_i k
    refine ⟨k, r1, ?_⟩
    cases k with
    | true => exact iteT ⟨μ1, ρ, S1, R, f1, h1, q.sub p1 g1⟩
    | false => exact iteF (q (.d (.bool false)) S1 (h1) μ1 (.bl false) H1 p1 f1 rfl g1)
  · exact h1.elim
theorem we_or (ha : WE X a ta) (hb : WE X (.BoolOp .Or (b :: rest) pos) tb) : WE X (.BoolOp .Or (a :: b :: rest) pos) (tOrV' ta tb) := by
  refine ⟨fun c => pe_w (pe_or (ha.pe c) (hb.pe c)) fun σ H Q ⟨μ, ρ, S, R, f, h, q⟩ => ?_⟩
  refine ⟨μ, ρ, S, _, f, h, fun x S1 h1 μ1 v1 H1 p1 f1 r1 g1 => ?_⟩
  split at h1
  · rename_i k
    refine ⟨k, r1, ?_⟩
    cases k with
    | true => exact iteT (q (.d (.bool true)) S1 (h1) μ1 (.bl true) H1 p1 f1 rfl g1)
    | false => exact iteF ⟨μ1, ρ, S1, R, f1, h1, q.sub p1 g1⟩
  · exact h1.elim
theorem we_not (ha : WE X a ta) : WE X (.UnaryOp .Not a pos) (tNoV ta) := by
  refine ⟨fun c => pe_w (pe_not (ha.pe c)) fun σ H Q ⟨μ, ρ, S, R, f, h, q⟩ => ?_⟩
  refine ⟨μ, ρ, S, _, f, h, fun x S1 h1 μ1 v1 H1 p1 f1 r1 g1 => ?_⟩
  split at h1
  · rename_i k
    exact ⟨k, r1, by rw [← bnot_eq k]; exact q (.d (.bool (bnot k))) S1 h1 μ1 (.bl (bnot k)) H1 p1 f1 rfl g1⟩
  · exact h1.elim
@[irreducible] def tIe (t : TTp) (ta tb : TEp) : TEp := fun ρ S R => t ρ S fun c S1 => Br c (ta ρ S1 R) (tb ρ S1 R)
theorem tie_ {t : TTp} {ta tb : TEp} {ρ : Rho} {S : Sto} {R : PQ} (h : t ρ S fun c S1 => Br c (ta ρ S1 R) (tb ρ S1 R)) : tIe t ta tb ρ S R := by
  unfold tIe; exact h
theorem we_ifExp {k : Expr} (hc : WT X k tA) (ha : WE X a ta) (hb : WE X b tb) : WE X (.IfExp k a b pos) (tIe tA ta tb) := by
  refine ⟨fun c => pe_w (pe_ifExp (hc.pt c) (ha.pe c) (hb.pe c)) fun σ H Q ⟨μ, ρ, S, R, f, h, q⟩ => ?_⟩
  unfold tIe at h
  refine ⟨μ, ρ, S, _, f, h, fun k S1 h1 μ1 H1 p1 f1 g1 => ?_⟩
  cases k with
  | true => exact iteT ⟨μ1, ρ, S1, R, f1, h1, q.sub p1 g1⟩
  | false => exact iteF ⟨μ1, ρ, S1, R, f1, h1, q.sub p1 g1⟩

/-! ### arguments -/
@[reducible] def tAnil : TAp := fun _ S R => R [] S
@[reducible] def tAcons (ta : TEp) (tr : TAp) : TAp := fun ρ S R => ta ρ S fun x S1 => tr ρ S1 fun xs S2 => R (x :: xs) S2
theorem wa_nil : WA X [] 0 tAnil := ⟨fun c => pa_w pa_nil fun σ H Q ⟨μ, ρ, S, R, f, h, q⟩ => q [] S h rfl μ [] H (.refl _) f .nil (.refl _)⟩
theorem wa_cons {e : Expr} {es : List Expr} {n : Nat} {te : TEp} {t : TAp} (ha : WE X e te) (hr : WA X es n t) (hs : starEach (e :: es) X.env = (false, eval e X.env) :: starEach es X.env := by rfl) : WA X (e :: es) (n + 1) (tAcons te t) := by
  refine ⟨fun c => pa_w (pa_cons (ha.pe c) (hr.pa c) hs) fun σ H Q ⟨μ, ρ, S, R, f, h, q⟩ => ?_⟩
  refine ⟨μ, ρ, S, _, f, h, fun x S1 h1 μ1 v1 H1 p1 f1 r1 g1 => ⟨μ1, ρ, S1, _, f1, h1, fun xs S2 h2 hl μ2 vs H2 p2 f2 r2 g2 => ?_⟩⟩
  exact q (x :: xs) S2 h2 (by rw [List.length_cons, hl]) μ2 (v1 :: vs) H2 (p1.trans p2) f2 (.cons (r1.mono g2 p2) r2) (g1.trans g2)
/-- all of them data -/
@[reducible] def dsOf (S : Sto) : List PV → Option (List PyData)
  | [] => some []
  | x :: xs => match vw S x, dsOf S xs with
    | some d, some ds => some (d :: ds)
    | _, _ => none
@[reducible] def dsP : List PV → Option (List PyData)
  | [] => some []
  | .d x :: xs => match dsP xs with
    | some ds => some (x :: ds)
    | none => none
  | .cel _ :: _ => none
theorem dsP_rep {K : PySem.W.Frag} {H : Hp} {μ : List Addr} : ∀ {pvs : List PV} {vs : List V} {ds : List PyData}, Paired (RepP K H μ) pvs vs → dsP pvs = some ds → Reps K H ds vs ∧ ds.length = pvs.length
  | _, _, _, .nil, h => by simp only [dsP, Option.some.injEq] at h; subst h; exact ⟨rfl, rfl⟩
  | .d x :: pvs, _, _, .cons r t, h => by
    simp only [dsP] at h
    split at h
    · rename_i ds e
      cases h
      obtain ⟨a, b⟩ := dsP_rep t e
      exact ⟨⟨_, _, rfl, r, a⟩, by rw [List.length_cons, List.length_cons, b]⟩
    · cases h
  | .cel _ :: _, _, _, .cons _ _, h => by simp [dsP] at h
theorem dsOf_rep {K : PySem.W.Frag} {c : FP} {μ : List Addr} {ρ : Rho} {S : Sto} {σ : L2.St} {H : Hp} (f : Fr K c μ ρ S σ H) : ∀ {pvs : List PV} {vs : List V} {ds : List PyData}, Paired (RepP K H μ) pvs vs → dsOf S pvs = some ds → Paired (RepR K H) ds vs
  | _, _, _, .nil, h => by simp only [dsOf, Option.some.injEq] at h; subst h; exact .nil
  | x :: pvs, _, _, .cons r t, h => by
    simp only [dsOf] at h
    split at h
    · rename_i d ds e1 e2
      cases h
      exact .cons (vw_rep f r e1) (dsOf_rep f t e2)
    · cases h
@[reducible] def tTp (t : TAp) : TEp := fun ρ S R => t ρ S fun xs S1 => match dsP xs with
  | some ds => R (.d (.tuple ds)) S1
  | none => False
@[reducible] def tLs (t : TAp) : TEp := fun ρ S R => t ρ S fun xs S1 => match dsP xs with
  | some ds => R (.d (.list ds)) S1
  | none => False
@[reducible] def tLsN (t : TAp) : TNp := fun ρ S R => t ρ S fun xs S1 => match dsP xs with
  | some ds => R ds S1
  | none => False
theorem line1000 {n : Nat} (h : n ≤ 1000) : n ≤ sizeLine := Nat.le_trans h (by decide)
variable {es : List Expr} {n : Nat} {t : TAp}
theorem w_tup {k} (h : WA X es n t) (hn : n ≤ 1000 := by decide) : WE X (.Tuple es k pos) (tTp t) := by
  refine ⟨fun c => pe_w (pe_tup (h.pa c)) fun σ H Q ⟨μ, ρ, S, R, f, h, q⟩ => ?_⟩
  refine ⟨μ, ρ, S, _, f, h, fun xs S1 h1 hl μ1 vs H1 p1 f1 r1 g1 => ?_⟩
  split at h1
  · rename_i ds e
    obtain ⟨rr, el⟩ := dsP_rep r1 e
    refine ⟨by rw [← rr.length, el, hl]; exact line1000 hn, fun p hp => ?_⟩
    exact q _ S1 h1 μ1 (.ref p) _ p1 (f1.same (same_new hp)) ⟨p, vs, rfl, .of upd_same, Reps.mono (.new hp) _ _ rr⟩ (g1.trans (.new hp))
  · exact h1.elim
theorem w_list (h : WA X es n t) (hn : n ≤ 1000 := by decide) : WE X (.List es pos) (tLs t) := by
  refine ⟨fun c => pe_w (pe_freeze (pe_lst (h.pa c))) fun σ H Q ⟨μ, ρ, S, R, f, h, q⟩ => ?_⟩
  refine ⟨μ, ρ, S, _, f, h, fun xs S1 h1 hl μ1 vs H1 p1 f1 r1 g1 => ?_⟩
  split at h1
  · rename_i ds e
    obtain ⟨rr, el⟩ := dsP_rep r1 e
    refine ⟨by rw [← rr.length, el, hl]; exact line1000 hn, fun p hp => .inr ⟨p, vs, rfl, upd_same, fun o => ?_⟩⟩
    rw [upd_upd]
    exact q _ S1 h1 μ1 (.ref p) _ p1 (f1.same (same_new hp)) ⟨p, vs, rfl, .inl ⟨o, upd_same⟩, Reps.mono (.new hp) _ _ rr⟩ (g1.trans (.new hp))
  · exact h1.elim
theorem wn_list (h : WA X es n t) (hn : n ≤ 1000 := by decide) : WN X (.List es pos) (tLsN t) := by
  refine ⟨fun c => pe_w (pe_lst (h.pa c)) fun σ H Q ⟨μ, ρ, S, R, f, h, q⟩ => ?_⟩
  refine ⟨μ, ρ, S, _, f, h, fun xs S1 h1 hl μ1 vs H1 p1 f1 r1 g1 => ?_⟩
  split at h1
  · rename_i ds e
    obtain ⟨rr, el⟩ := dsP_rep r1 e
    refine ⟨by rw [← rr.length, el, hl]; exact line1000 hn, fun p hp => ?_⟩
    exact q ds S1 h1 μ1 p vs _ p1 (f1.same (same_new hp)) upd_same (f1.notIn hp) (f1.noH0 hp) (Reps.mono (.new hp) _ _ rr) (g1.trans (.new hp))
  · exact h1.elim
/-- a value that is locked where it is a list cell -/
@[reducible] def tFz (t : TEp) : TEp := fun ρ S R => t ρ S fun x S1 => match x with
  | .d y => R (.d y) S1
  | .cel i => match cellAt S1 i with
    | some (.lst xs) => R (.d (.list xs)) (setS S1 i (.frz xs))
    | some (.frz xs) => R (.d (.list xs)) S1
    | _ => False
theorem w_fz {e : Expr} {t : TEp} (h : WE X e t) : WE X e (tFz t) := by
  refine ⟨fun c => pe_w (pe_freeze (h.pe c)) fun σ H Q ⟨μ, ρ, S, R, f, h, q⟩ => ?_⟩
  refine ⟨μ, ρ, S, _, f, h, fun x S1 h1 μ1 v1 H1 p1 f1 r1 g1 => ?_⟩
  cases x with
  | d y => exact .inl (q _ S1 h1 μ1 v1 H1 p1 f1 r1 g1)
  | cel i =>
    obtain ⟨a, ha, rfl⟩ := r1
    simp only [cellAt_get] at h1
    cases z : S1[i]? with
    | none => rw [z] at h1; exact h1.elim
    | some y =>
      obtain ⟨a', e, cr⟩ := f1.at z
      rw [ha] at e; cases e
      rw [z] at h1
      cases y with
      | lst xs =>
        obtain ⟨vs, e, rr⟩ := cr
        refine .inr ⟨a, vs, rfl, e, fun o => ?_⟩
        obtain ⟨f2, g2⟩ := f1.write (o := .frz o (.lst vs)) (y := .frz xs) z ha ⟨o, vs, upd_same, Reps.mono (.put e) _ _ rr⟩
        exact q (.d (.list xs)) _ h1 μ1 _ _ p1 f2 ⟨a, vs, rfl, .inl ⟨o, upd_same⟩, Reps.mono g2 _ _ rr⟩ (g1.trans g2)
      | frz xs =>
        obtain ⟨o, vs, e, rr⟩ := cr
        exact .inl (q (.d (.list xs)) _ h1 μ1 _ _ p1 f1 ⟨a, vs, rfl, .inl ⟨o, e⟩, rr⟩ g1)
      | led d n => exact h1.elim
      | dic d its => exact h1.elim
      | fdi ps => exact h1.elim
end
end Pu

set_option autoImplicit false
namespace Pu
open PySem PySem.Spec PyProof.Rows L2

/-! ### statements -/
structure EndsP where
  nx : Rho → Sto → Prop
  rt : PQ
  bk : Rho → Sto → Prop := fun _ _ => False
  ct : Rho → Sto → Prop := fun _ _ => False
abbrev TSp := EndsP → Rho → Sto → Prop
structure RetS (K : PySem.W.Frag) (c : FP) (E : EndsP) (μ : List Addr) (H : Hp) (Dn : Ends) : Prop where
  nx : ∀ ρ' S', E.nx ρ' S' → ∀ μ' σ' H', Pre μ μ' → Fr K c μ' ρ' S' σ' H' → Ge H H' → Dn.nx σ' H'
  rt : ∀ pv S', E.rt pv S' → ∀ μ' ρ' σ' v H', Pre μ μ' → Fr K c μ' ρ' S' σ' H' → RepP K H' μ' pv v → Ge H H' → Dn.rt v H'
  bk : ∀ ρ' S', E.bk ρ' S' → ∀ μ' σ' H', Pre μ μ' → Fr K c μ' ρ' S' σ' H' → Ge H H' → Dn.bk σ' H'
  ct : ∀ ρ' S', E.ct ρ' S' → ∀ μ' σ' H', Pre μ μ' → Fr K c μ' ρ' S' σ' H' → Ge H H' → Dn.ct σ' H'
theorem RetS.sub {K : PySem.W.Frag} {c : FP} {E : EndsP} {μ μ1 : List Addr} {H H1 : Hp} {Dn : Ends} (q : RetS K c E μ H Dn) (p : Pre μ μ1) (g : Ge H H1) : RetS K c E μ1 H1 Dn where
  nx := fun ρ' S' h μ' σ' H' p' f g' => q.nx ρ' S' h μ' σ' H' (p.trans p') f (g.trans g')
  rt := fun pv S' h μ' ρ' σ' v H' p' f r g' => q.rt pv S' h μ' ρ' σ' v H' (p.trans p') f r (g.trans g')
  bk := fun ρ' S' h μ' σ' H' p' f g' => q.bk ρ' S' h μ' σ' H' (p.trans p') f (g.trans g')
  ct := fun ρ' S' h μ' σ' H' p' f g' => q.ct ρ' S' h μ' σ' H' (p.trans p') f (g.trans g')
def upS (K : PySem.W.Frag) (c : FP) (t : TSp) : TS := fun Dn σ H => ∃ μ ρ S E, Fr K c μ ρ S σ H ∧ t E ρ S ∧ RetS K c E μ H Dn
structure WS (X : Cx) (st : Stmt) (t : TSp) : Prop where
  ps : ∀ c, PS X st (upS X.K c t)
structure WSs (X : Cx) (sts : List Stmt) (t : TSp) : Prop where
  ps : ∀ c, PSs X sts (upS X.K c t)
section
variable {X : Cx} {st : Stmt} {rest : List Stmt} {t u : TSp} {e : Expr} {te : TEp} {pos : Pos}
theorem ps_w {t t' : TS} (h : PS X st t) (w : ∀ D σ H, t' D σ H → t D σ H) : PS X st t' := ⟨fun pins s σ H D I q => h.run pins s σ H D I (w D σ H q)⟩
theorem pss_w {t t' : TS} (h : PSs X rest t) (w : ∀ D σ H, t' D σ H → t D σ H) : PSs X rest t' := ⟨fun pins s σ H D I q => h.run pins s σ H D I (w D σ H q)⟩
@[reducible] def tNx : TSp := fun E ρ S => E.nx ρ S
@[reducible] def tSq (t u : TSp) : TSp := fun E ρ S => match E with | ⟨nx, rt, bk, ct⟩ => t ⟨u ⟨nx, rt, bk, ct⟩, rt, bk, ct⟩ ρ S
theorem wss_nil : WSs X [] tNx := ⟨fun c => pss_w pss_nil fun D σ H ⟨μ, ρ, S, E, f, h, q⟩ => q.nx ρ S h μ σ H (.refl _) f (.refl _)⟩
theorem wss_cons (h1 : WS X st t) (h2 : WSs X rest u) : WSs X (st :: rest) (tSq t u) := by
  refine ⟨fun c => pss_w (pss_cons (h1.ps c) (h2.ps c)) fun D σ H ⟨μ, ρ, S, E, f, h, q⟩ => ?_⟩
  exact ⟨μ, ρ, S, { E with nx := u E }, f, h, ⟨fun ρ' S' hx μ' σ' H' p f' g => ⟨μ', ρ', S', E, f', hx, q.sub p g⟩, q.rt, q.bk, q.ct⟩⟩
/-- a bar: nothing is reckoned past it -/
structure Bar (p : Prop) : Prop where
  out : p
@[reducible] def tSqB (t u : TSp) : TSp := fun E ρ S => match E with | ⟨nx, rt, bk, ct⟩ => t ⟨fun ρ1 S1 => Bar (u ⟨nx, rt, bk, ct⟩ ρ1 S1), rt, bk, ct⟩ ρ S
theorem wss_consB (h1 : WS X st t) (h2 : WSs X rest u) : WSs X (st :: rest) (tSqB t u) := by
  refine ⟨fun c => pss_w (pss_cons (h1.ps c) (h2.ps c)) fun D σ H ⟨μ, ρ, S, E, f, h, q⟩ => ?_⟩
  exact ⟨μ, ρ, S, { E with nx := fun ρ1 S1 => Bar (u E ρ1 S1) }, f, h, ⟨fun ρ' S' hx μ' σ' H' p f' g => ⟨μ', ρ', S', E, f', hx.out, q.sub p g⟩, q.rt, q.bk, q.ct⟩⟩
theorem wss_one (h1 : WS X st t) : WSs X [st] t := ⟨fun c => pss_one (h1.ps c)⟩
theorem ws_pass : WS X (.Pass pos) tNx := ⟨fun c => ps_w ps_pass fun D σ H ⟨μ, ρ, S, E, f, h, q⟩ => q.nx ρ S h μ σ H (.refl _) f (.refl _)⟩
theorem ws_break : WS X (.Break pos) (fun E ρ S => E.bk ρ S) := ⟨fun c => ps_w ps_break fun D σ H ⟨μ, ρ, S, E, f, h, q⟩ => q.bk ρ S h μ σ H (.refl _) f (.refl _)⟩
theorem ws_continue : WS X (.Continue pos) (fun E ρ S => E.ct ρ S) := ⟨fun c => ps_w ps_continue fun D σ H ⟨μ, ρ, S, E, f, h, q⟩ => q.ct ρ S h μ σ H (.refl _) f (.refl _)⟩
@[reducible] def tDp (te : TEp) : TSp := fun E ρ S => te ρ S fun _ S1 => E.nx ρ S1
theorem ws_expr (he : WE X e te) (hs : swapsWith e none pos.line X.env = pure false := by rfl) : WS X (.Expr e pos) (tDp te) := by
  refine ⟨fun c => ps_w (ps_expr (he.pe c) hs) fun D σ H ⟨μ, ρ, S, E, f, h, q⟩ => ?_⟩
  exact ⟨μ, ρ, S, _, f, h, fun x S1 h1 μ1 v1 H1 p1 f1 r1 g1 => q.nx ρ S1 h1 μ1 σ H1 p1 f1 g1⟩
@[reducible] def tRt (te : TEp) : TSp := fun E ρ S => te ρ S E.rt
theorem ws_ret (he : WE X e te) : WS X (.Return (some e) pos) (tRt te) := by
  refine ⟨fun c => ps_w (ps_ret (he.pe c)) fun D σ H ⟨μ, ρ, S, E, f, h, q⟩ => ?_⟩
  exact ⟨μ, ρ, S, _, f, h, fun x S1 h1 μ1 v1 H1 p1 f1 r1 g1 => q.rt x S1 h1 μ1 ρ σ v1 H1 p1 f1 r1 g1⟩
/-- a new list is handed back: the caller may go on to change it -/
@[reducible] def tRtN (te : TNp) : TSp := fun E ρ S => te ρ S fun xs S1 => E.rt (.cel (lenS S1)) (snocS S1 (.lst xs))
theorem ws_retN {te : TNp} (he : WN X e te) : WS X (.Return (some e) pos) (tRtN te) := by
  refine ⟨fun c => ps_w (ps_ret (he.pe c)) fun D σ H ⟨μ, ρ, S, E, f, h, q⟩ => ?_⟩
  refine ⟨μ, ρ, S, _, f, h, fun xs S1 h1 μ1 p vs H1 p1 f1 hp np no rr g1 => ?_⟩
  refine q.rt _ _ h1 (μ1 ++ [p]) ρ σ _ H1 (p1.trans ⟨[p], rfl⟩) (f1.newCell hp np no rr) ⟨p, ?_, rfl⟩ g1
  rw [lenS_eq, paired_len f1.cel]; simp
theorem ws_retNone : WS X (.Return none pos) (fun E _ S => E.rt (.d .none) S) := ⟨fun c => ps_w ps_retN fun D σ H ⟨μ, ρ, S, E, f, h, q⟩ => q.rt _ S h μ ρ σ .non H (.refl _) f rfl (.refl _)⟩
@[reducible] def tIfP (tc : TTp) (t u : TSp) : TSp := fun E ρ S => tc ρ S fun b S1 => Br b (t E ρ S1) (u E ρ S1)
theorem ws_if {k : Expr} {a b : List Stmt} {tc : TTp} (hc : WT X k tc) (ha : WSs X a t) (hb : WSs X b u) : WS X (.If k a b pos) (tIfP tc t u) := by
  refine ⟨fun c => ps_w (ps_if (hc.pt c) (ha.ps c) (hb.ps c)) fun D σ H ⟨μ, ρ, S, E, f, h, q⟩ => ?_⟩
  refine ⟨μ, ρ, S, _, f, h, fun k S1 h1 μ1 H1 p1 f1 g1 => ?_⟩
  cases k with
  | true => exact iteT ⟨μ1, ρ, S1, E, f1, h1, q.sub p1 g1⟩
  | false => exact iteF ⟨μ1, ρ, S1, E, f1, h1, q.sub p1 g1⟩

/-- an if that goes on behind itself, both ways -/
@[irreducible] def tIfJ (tc : TTp) (t u : TSp) : TSp := tIfP tc t u
theorem tifj_ {tc : TTp} {t u : TSp} {E : EndsP} {ρ : Rho} {S : Sto} (h : tIfP tc t u E ρ S) : tIfJ tc t u E ρ S := by
  unfold tIfJ; exact h
theorem ws_ifJ {k : Expr} {a b : List Stmt} {tc : TTp} (hc : WT X k tc) (ha : WSs X a t) (hb : WSs X b u) : WS X (.If k a b pos) (tIfJ tc t u) := by
  unfold tIfJ; exact ws_if hc ha hb

/-! ### stores -/
@[reducible] def tSt (i : Nat) (te : TEp) : TSp := fun E ρ S => te ρ S fun x S1 => E.nx (setR ρ i (some x)) S1
theorem ws_set {i : Nat} {x : Str} {pos' : Pos} (hN : X.N.Nodup) (hi : X.N[i]? = some x) (hx : Loc X.env.scope x) (he : WE X e te) (hs : swapsWith e (some (.Name x pos')) pos.line X.env = pure false := by rfl) (hf : X.fn x = true ∨ X.env.scope.names.lookup x = some .local := by first | exact .inl rfl | exact .inr rfl | assumption) :
    WS X (.Assign [.Name x pos'] e pos) (tSt i te) := by
  refine ⟨fun c => ps_w (ps_set hN hi hx (he.pe c) hs hf) fun D σ H ⟨μ, ρ, S, E, f, h, q⟩ => ?_⟩
  exact ⟨μ, ρ, S, _, f, h, fun x S1 h1 μ1 v1 H1 p1 f1 r1 g1 => q.nx _ S1 h1 μ1 _ H1 p1 (f1.set r1) g1⟩
/-- the same, to be stopped at -/
@[irreducible] def tStJ (i : Nat) (te : TEp) : TSp := tSt i te
theorem stj_ {i : Nat} {te : TEp} {E : EndsP} {ρ : Rho} {S : Sto} (h : te ρ S fun x S1 => E.nx (setR ρ i (some x)) S1) : tStJ i te E ρ S := by
  unfold tStJ; exact h
theorem ws_setJ {i : Nat} {x : Str} {pos' : Pos} (hN : X.N.Nodup) (hi : X.N[i]? = some x) (hx : Loc X.env.scope x) (he : WE X e te) (hs : swapsWith e (some (.Name x pos')) pos.line X.env = pure false := by rfl) (hf : X.fn x = true ∨ X.env.scope.names.lookup x = some .local := by first | exact .inl rfl | exact .inr rfl | assumption) :
    WS X (.Assign [.Name x pos'] e pos) (tStJ i te) := by
  unfold tStJ; exact ws_set hN hi hx he hs hf
/-- a new list is stored: a cell -/
@[reducible] def tStN (i : Nat) (te : TNp) : TSp := fun E ρ S => te ρ S fun xs S1 => E.nx (setR ρ i (some (.cel (lenS S1)))) (snocS S1 (.lst xs))
theorem stN_up {i : Nat} {c : FP} {μ : List Addr} {ρ : Rho} {S : Sto} {E : EndsP} {σ : L2.St} {H : Hp} {D : Ends} {te : TNp} (f : Fr X.K c μ ρ S σ H) (h : tStN i te E ρ S) (q : RetS X.K c E μ H D) :
    upN X.K c te σ H (fun v H1 => D.nx (σ.set i (some v)) H1) := by
  refine ⟨μ, ρ, S, _, f, h, fun xs S1 h1 μ1 p vs H1 p1 f1 hp np no rr g1 => ?_⟩
  refine q.nx _ _ h1 (μ1 ++ [p]) _ H1 (p1.trans ⟨[p], rfl⟩) ((f1.newCell hp np no rr).set ⟨p, ?_, rfl⟩) g1
  rw [lenS_eq, paired_len f1.cel]; simp
theorem ws_setN {i : Nat} {x : Str} {pos' : Pos} {te : TNp} (hN : X.N.Nodup) (hi : X.N[i]? = some x) (hx : Loc X.env.scope x) (he : WN X e te) (hs : swapsWith e (some (.Name x pos')) pos.line X.env = pure false := by rfl) (hf : X.fn x = true ∨ X.env.scope.names.lookup x = some .local := by first | exact .inl rfl | exact .inr rfl | assumption) :
    WS X (.Assign [.Name x pos'] e pos) (tStN i te) :=
  ⟨fun c => ps_w (ps_set hN hi hx (he.pe c) hs hf) fun D σ H ⟨μ, ρ, S, E, f, h, q⟩ => stN_up f h q⟩
/-- targets of data -/
abbrev TGp := PyData → Rho → (Rho → Prop) → Prop
abbrev TGsp := List PyData → Rho → (Rho → Prop) → Prop
def Off (ws : List Nat) (σ σ' : L2.St) : Prop := σ'.length = σ.length ∧ ∀ i, i ∉ ws → σ'[i]? = σ[i]?
def upG (K : PySem.W.Frag) (c : FP) (ws : List Nat) (g : TGp) : TG := fun v σ H Q => ∃ μ ρ S x R, Fr K c μ ρ S σ H ∧ Rep K H x v ∧ g x ρ R ∧ ∀ ρ', R ρ' → ∀ σ', Fr K c μ ρ' S σ' H → Off ws σ σ' → Q σ' H
def upGs (K : PySem.W.Frag) (c : FP) (ws : List Nat) (g : TGsp) : TGs := fun vs σ H Q => ∃ μ ρ S xs R, Fr K c μ ρ S σ H ∧ Reps K H xs vs ∧ g xs ρ R ∧ ∀ ρ', R ρ' → ∀ σ', Fr K c μ ρ' S σ' H → Off ws σ σ' → Q σ' H
structure WG (X : Cx) (tg : Expr) (ws : List Nat) (g : TGp) : Prop where
  pg : ∀ c, PG X tg (upG X.K c ws g)
structure WGs (X : Cx) (tgs : List Expr) (ws : List Nat) (g : TGsp) : Prop where
  pg : ∀ c, PGs X tgs (upGs X.K c ws g)
theorem pg_w {tg : Expr} {t t' : TG} (h : PG X tg t) (w : ∀ v σ H Q, t' v σ H Q → t v σ H Q) : PG X tg t' := ⟨fun pins s σ H v u Q I r q => h.run pins s σ H v u Q I r (w v σ H Q q)⟩
theorem pgs_w {tg : List Expr} {t t' : TGs} (h : PGs X tg t) (w : ∀ v σ H Q, t' v σ H Q → t v σ H Q) : PGs X tg t' := ⟨fun pins s σ H vs us Q I r q => h.run pins s σ H vs us Q I r (w vs σ H Q q)⟩
theorem Off.refl (ws : List Nat) (σ : L2.St) : Off ws σ σ := ⟨rfl, fun _ _ => rfl⟩
theorem Off.one (i : Nat) (v : Option V) (σ : L2.St) : Off [i] σ (σ.set i v) := ⟨by simp, fun j hj => by rw [List.getElem?_set_ne]; intro z; exact hj (by simp [z])⟩
theorem Off.trans {a b : List Nat} {σ σ1 σ2 : L2.St} (x : Off a σ σ1) (y : Off b σ1 σ2) : Off (a ++ b) σ σ2 :=
  ⟨y.1.trans x.1, fun i hi => (y.2 i fun z => hi (List.mem_append_right _ z)).trans (x.2 i fun z => hi (List.mem_append_left _ z))⟩
@[reducible] def gNm (i : Nat) : TGp := fun x ρ R => R (setR ρ i (some (.d x)))
theorem wg_name {i : Nat} {x : Str} (hN : X.N.Nodup) (hi : X.N[i]? = some x) (hx : Loc X.env.scope x) (hf : X.fn x = true ∨ X.env.scope.names.lookup x = some .local := by first | exact .inl rfl | exact .inr rfl | assumption) : WG X (.Name x pos) [i] (gNm i) :=
  ⟨fun c => pg_w (pg_name hN hi hx hf) fun v σ H Q ⟨μ, ρ, S, x, R, f, r, h, q⟩ => q _ h _ (f.set r) (.one _ _ _)⟩
@[reducible] def gNl : TGsp := fun xs ρ R => match xs with
  | [] => R ρ
  | _ => False
@[reducible] def gCn (g : TGp) (u : TGsp) : TGsp := fun xs ρ R => match xs with
  | x :: r => g x ρ fun ρ1 => u r ρ1 R
  | [] => False
/-- xs has n items, and p -/
structure LenIs {α : Type} (xs : List α) (n : Nat) (p : Prop) : Prop where
  len : xs.length = n
  yes : p
theorem LenIs.out {α : Type} {xs : List α} {n : Nat} {p : Prop} (h : LenIs xs n p) : xs.length = n ∧ p := ⟨h.len, h.yes⟩
theorem lenI {α : Type} {xs : List α} {n : Nat} {p : Prop} (h : p) (e : xs.length = n := by simp) : LenIs xs n p := ⟨e, h⟩
@[reducible] def gTp (n : Nat) (u : TGsp) : TGp := fun x ρ R => match x with
  | .tuple xs => LenIs xs n (u xs ρ R)
  | _ => False
theorem wgs_nil : WGs X [] [] gNl := by
  refine ⟨fun c => pgs_w pgs_nil fun v σ H Q ⟨μ, ρ, S, xs, R, f, r, h, q⟩ => ?_⟩
  cases xs with
  | nil => exact ⟨r, q ρ h σ f (.refl _ _)⟩
  | cons _ _ => exact h.elim
theorem wgs_cons {tg : Expr} {tgs : List Expr} {ws us : List Nat} {g : TGp} {u : TGsp} (h1 : WG X tg ws g) (h2 : WGs X tgs us u)
    (hs : (assignEach (tg :: tgs) X.env).map (·.2) = assign tg X.env :: (assignEach tgs X.env).map (·.2) := by rfl) : WGs X (tg :: tgs) (ws ++ us) (gCn g u) := by
  refine ⟨fun c => pgs_w (pgs_cons (h1.pg c) (h2.pg c) hs) fun v σ H Q ⟨μ, ρ, S, xs, R, f, r, h, q⟩ => ?_⟩
  cases xs with
  | nil => exact h.elim
  | cons x xs =>
    obtain ⟨v, ws', rfl, r1, r2⟩ := r
    exact ⟨v, ws', rfl, μ, ρ, S, x, _, f, r1, h, fun ρ1 h1 σ1 f1 o1 => ⟨μ, ρ1, S, xs, _, f1, r2, h1, fun ρ2 h2 σ2 f2 o2 => q ρ2 h2 σ2 f2 (o1.trans o2)⟩⟩
theorem wg_tup {tgs : List Expr} {k n : Nat} {ws : List Nat} {u : TGsp} (hc : X.calm = true) (h : WGs X tgs ws u) (hn : (assignEach tgs X.env).length = n := by rfl) (hst : (assignEach tgs X.env).findIdx? (·.1) = none := by rfl) :
    WG X (.Tuple tgs k pos) ws (gTp n u) := by
  refine ⟨fun c => pg_w (pg_tup hc (h.pg c) hn hst) fun v σ H Q ⟨μ, ρ, S, x, R, f, r, h, q⟩ => ?_⟩
  cases x with
  | tuple xs =>
    obtain ⟨a, vs, rfl, s, rr⟩ := r
    obtain ⟨hl, h⟩ := LenIs.out h
    exact ⟨a, vs, rfl, s, by rw [← rr.length, hl], μ, ρ, S, xs, R, f, rr, h, q⟩
  | _ => exact h.elim
/-- target = value -/
@[reducible] def tAs (te : TEp) (g : TGp) : TSp := fun E ρ S => te ρ S fun x S1 => match x with
  | .d y => g y ρ fun ρ1 => E.nx ρ1 S1
  | .cel _ => False
theorem ws_asg {tg : Expr} {ws : List Nat} {g : TGp} (he : WE X e te) (hg : WG X tg ws g) (hs : swapsWithSole [tg] e pos.line X.env = pure false := by rfl) (hw : swappedStores [tg] e X.env = pure none := by rfl)
    (h1 : (assignEach [tg] X.env).map (·.2) = [assign tg X.env] := by rfl) : WS X (.Assign [tg] e pos) (tAs te g) := by
  refine ⟨fun c => ps_w (ps_asg (he.pe c) (hg.pg c) hs hw h1) fun D σ H ⟨μ, ρ, S, E, f, h, q⟩ => ?_⟩
  refine ⟨μ, ρ, S, _, f, h, fun x S1 h1 μ1 v1 H1 p1 f1 r1 g1 => ?_⟩
  cases x with
  | d y => exact ⟨μ1, ρ, S1, y, _, f1, r1, h1, fun ρ1 h2 σ1 f2 _ => q.nx ρ1 S1 h2 μ1 σ1 H1 p1 f2 g1⟩
  | cel _ => exact h1.elim
/-- a, b = x, y -/
@[reducible] def tPr (i j : Nat) (ta : TAp) : TSp := fun E ρ S => ta ρ S fun xs S1 => match xs with
  | [x, y] => E.nx (setR (setR ρ i (some x)) j (some y)) S1
  | _ => False
theorem ws_par {i j n : Nat} {x y : Str} {a b : Expr} {ta : TAp} {px py pt : Pos} {kt k2 pt2} (hc : X.calm = true) (hN : X.N.Nodup) (hi : X.N[i]? = some x) (hj : X.N[j]? = some y) (hij : i ≠ j)
    (hx : X.env.scope.names.lookup x = some .local) (hy : X.env.scope.names.lookup y = some .local) (ha : WA X [a, b] n ta)
    (hw : swappedStores [.Tuple [.Name x px, .Name y py] kt pt] (.Tuple [a, b] k2 pt2) X.env = pure (some [x, y]))
    (hs : swapsWithSole [.Tuple [.Name x px, .Name y py] kt pt] (.Tuple [a, b] k2 pt2) pos.line X.env = pure false := by rfl) :
    WS X (.Assign [.Tuple [.Name x px, .Name y py] kt pt] (.Tuple [a, b] k2 pt2) pos) (tPr i j ta) := by
  refine ⟨fun c => ps_w (L2.ps_par hc hN hi hj hij hx hy (ha.pa c) hw hs) fun D σ H ⟨μ, ρ, S, E, f, h, q⟩ => ?_⟩
  refine ⟨μ, ρ, S, _, f, h, fun xs S1 h1 hl μ1 vs H1 p1 f1 r1 g1 => ?_⟩
  match xs, r1, h1 with
  | [x, y], .cons rx (.cons ry .nil), h1 => exact ⟨_, _, rfl, q.nx _ S1 h1 μ1 _ H1 p1 ((f1.set rx).set ry) g1⟩
@[reducible] def tPr3 (i j l : Nat) (ta : TAp) : TSp := fun E ρ S => ta ρ S fun xs S1 => match xs with
  | [x, y, z] => E.nx (setR (setR (setR ρ i (some x)) j (some y)) l (some z)) S1
  | _ => False
theorem ws_par3 {i j l n : Nat} {x y z : Str} {a b k : Expr} {ta : TAp} {px py pz pt : Pos} {kt k2 pt2} (hc : X.calm = true) (hN : X.N.Nodup) (hi : X.N[i]? = some x) (hj : X.N[j]? = some y) (hl : X.N[l]? = some z) (hij : i ≠ j) (hil : i ≠ l) (hjl : j ≠ l)
    (hx : X.env.scope.names.lookup x = some .local) (hy : X.env.scope.names.lookup y = some .local) (hz : X.env.scope.names.lookup z = some .local) (ha : WA X [a, b, k] n ta)
    (hw : swappedStores [.Tuple [.Name x px, .Name y py, .Name z pz] kt pt] (.Tuple [a, b, k] k2 pt2) X.env = pure (some [x, y, z]))
    (hs : swapsWithSole [.Tuple [.Name x px, .Name y py, .Name z pz] kt pt] (.Tuple [a, b, k] k2 pt2) pos.line X.env = pure false := by rfl) :
    WS X (.Assign [.Tuple [.Name x px, .Name y py, .Name z pz] kt pt] (.Tuple [a, b, k] k2 pt2) pos) (tPr3 i j l ta) := by
  refine ⟨fun c => ps_w (L2.ps_par3 hc hN hi hj hl hij hil hjl hx hy hz (ha.pa c) hw hs) fun D σ H ⟨μ, ρ, S, E, f, h, q⟩ => ?_⟩
  refine ⟨μ, ρ, S, _, f, h, fun xs S1 h1 hl μ1 vs H1 p1 f1 r1 g1 => ?_⟩
  match xs, r1, h1 with
  | [x, y, z], .cons rx (.cons ry (.cons rz .nil)), h1 => exact ⟨_, _, _, rfl, q.nx _ S1 h1 μ1 _ H1 p1 (((f1.set rx).set ry).set rz) g1⟩
/-- x op= e -/
@[reducible] def tAu (i : Nat) (p : OpD) (te : TEp) : TSp := fun E ρ S => match sltAt ρ i with
  | some x => te ρ S fun y S1 => match x, vw S1 y with
    | .d a, some b => p a b fun r => E.nx (setR ρ i (some (.d r))) S1
    | _, _ => False
  | none => False
theorem ws_aug {i : Nat} {x : Str} {op : Operator} {r : R2} {p : OpD} {pos' : Pos} (hN : X.N.Nodup) (hi : X.N[i]? = some x) (hx : Loc X.env.scope x) (he : WE X e te) (ho : OpR X (inplaceOp op) r) (hp : OpdOk X.K r p)
    (hr : ∀ x y H Q Q', (∀ v H1, (∀ a, v ≠ .ref a) → Q v H1 → Q' v H1) → r x y H Q → r x y H Q')
    (hf : X.fn x = true ∨ X.env.scope.names.lookup x = some .local := by first | exact .inl rfl | exact .inr rfl | assumption) : WS X (.AugAssign (.Name x pos') op e pos) (tAu i p te) := by
  refine ⟨fun c => ps_w (L2.ps_aug hN hi hx (he.pe c) ho hf) fun D σ H ⟨μ, ρ, S, E, f, h, q⟩ => ?_⟩
  unfold tAu at h
  split at h
  · rename_i pv e
    obtain ⟨v, hv, rv⟩ := f.slot (sltAt_get e)
    refine ⟨v, hv, μ, ρ, S, _, f, h, fun y S1 h1 μ1 v1 H1 p1 f1 r1 g1 => ?_⟩
    split at h1
    · rename_i a b e2
      have rv1 : Rep X.K H1 a v := Rep.mono g1 _ _ rv
      have base := hp H1 a b v v1 _ (Fz fun z H2 => D.nx (σ.set i (some z)) H2) rv1.read (vw_rep f1 r1 e2) h1 ⟨fun r w H2 hk rep same => .inl (q.nx _ S1 hk μ1 _ H2 p1 ((f1.same same).set (x := .d r) rep) (g1.trans (.of_same same))), fun xs a' vs hk hn reps => .inr ⟨a', vs, rfl, upd_same, fun o => by
        rw [upd_upd]
        exact q.nx _ S1 hk μ1 _ _ p1 ((f1.same (same_new hn)).set (x := .d (.list xs)) ⟨a', vs, rfl, .inl ⟨o, upd_same⟩, Reps.mono (.new hn) _ _ reps⟩) (g1.trans (.new hn))⟩⟩
      refine hr _ _ _ _ _ (fun z H2 nz w => ?_) base
      rcases w with w | ⟨a', vs, rfl, _⟩
      · exact w
      · exact absurd rfl (nz a')
    · exact h1.elim
  · exact h.elim
@[reducible] def setD : List PyData → Nat → PyData → List PyData
  | [], _, _ => []
  | _ :: r, 0, x => x :: r
  | y :: r, i + 1, x => y :: setD r i x
@[reducible] def snocD : List PyData → PyData → List PyData
  | [], c => [c]
  | y :: r, c => y :: snocD r c
/-- a written place of a list -/
@[reducible] def inD : List PyData → Nat → Option Nat
  | [], _ => none
  | _ :: _, 0 => some .zero
  | _ :: r, i + 1 => match inD r i with
    | some j => some (.succ j)
    | none => none
@[reducible] def ixR (xs : List PyData) : Int → Option Nat
  | .ofNat n => inD xs n
  | .negSucc _ => none
theorem setD_eq : ∀ (ρ : List PyData) (i : Nat) (x : PyData), setD ρ i x = ρ.set i x
  | [], _, _ => by simp [setD]
  | _ :: _, 0, _ => by simp [setD]
  | _ :: r, i + 1, x => by simp [setD, setD_eq r i x]
theorem snocD_eq : ∀ (S : List PyData) (x : PyData), snocD S x = S ++ [x]
  | [], _ => rfl
  | y :: r, x => by rw [snocD, snocD_eq r x]; rfl
theorem inD_eq : ∀ {xs : List PyData} {i j : Nat}, inD xs i = some j → j = i ∧ i < xs.length
  | [], _, _, h => by simp [inD] at h
  | _ :: _, 0, j, h => by
    have h' : Nat.zero = j := Option.some.inj h
    exact ⟨h'.symm, by simp⟩
  | _ :: r, i + 1, j, h => by
    simp only [inD] at h
    split at h
    · rename_i k e
      obtain ⟨a, b⟩ := inD_eq e
      cases h
      exact ⟨by rw [a], by simpa using b⟩
    · cases h
theorem ixR_eq {xs : List PyData} {k : Int} {m : Nat} (h : ixR xs k = some m) : ixN xs.length k = some m := by
  cases k with
  | ofNat n =>
    obtain ⟨a, b⟩ := inD_eq h
    subst a
    unfold ixN
    have h1 : (0 : Int) ≤ Int.ofNat m := Int.natCast_nonneg m
    have h2 : Int.ofNat m < (xs.length : Int) := by
      show ((m : Nat) : Int) < _
      omega
    rw [if_pos h1, if_pos h2]; rfl
  | negSucc n => simp [ixR] at h
/-- o[i] = e, o a list cell -/
@[reducible] def tSb (to ti te : TEp) : TSp := fun E ρ S => te ρ S fun v S1 => to ρ S1 fun o S2 => ti ρ S2 fun i S3 => match o, i, v with
  | .cel j, .d (.int k), .d y => match cellAt S3 j with
    | some (.lst xs) => match ixR xs k with
      | some m => E.nx ρ (setS S3 j (.lst (setD xs m y)))
      | none => False
    | _ => False
  | _, _, _ => False
theorem ws_sub {o i : Expr} {to ti : TEp} {pos2 : Pos} (ho : WE X o to) (hi : WE X i ti) (he : WE X e te)
    (ha : ∀ v, assign (.Subscript o i pos2) X.env v = (do
      let ov ← holding [v] (eval o X.env)
      let iv ← holding [v, ov] (eval i X.env)
      standAt pos2
      holding [v, ov, iv] (setItem ov iv v)
      release [v, ov, iv] []) := by intro _; rfl)
    (hs : swapsWithSole [.Subscript o i pos2] e pos.line X.env = pure false := by rfl) (hw : swappedStores [.Subscript o i pos2] e X.env = pure none := by rfl) : WS X (.Assign [.Subscript o i pos2] e pos) (tSb to ti te) := by
  refine ⟨fun c => ps_w (ps_asg (he.pe c) (pg_sub (ho.pe c) (hi.pe c) set_list ha) hs hw) fun D σ H ⟨μ, ρ, S, E, f, h, q⟩ => ?_⟩
  refine ⟨μ, ρ, S, _, f, h, fun v S1 h1 μ1 v1 H1 p1 f1 r1 g1 => ⟨μ1, ρ, S1, _, f1, h1, fun ov S2 h2 μ2 v2 H2 p2 f2 r2 g2 => ⟨μ2, ρ, S2, _, f2, h2, fun iv S3 h3 μ3 v3 H3 p3 f3 r3 g3 => ?_⟩⟩⟩
  split at h3
  · rename_i j k y
    obtain ⟨a, ha, rfl⟩ := r2
    rw [cellAt_get] at h3
    split at h3
    · rename_i xs e1
      split at h3
      · rename_i m e2
        obtain ⟨a', ha', vs, e3, rr⟩ := f3.at e1
        have ha3 := p3.get ha
        rw [ha3] at ha'; cases ha'
        have r1' : Rep X.K H3 y v1 := Rep.mono (g2.trans g3) _ _ r1
        obtain ⟨f4, g4⟩ := f3.write (o := .lst (vs.set m v1)) (y := .lst (setD xs m y)) e1 ha3 ⟨_, upd_same, by rw [setD_eq]; exact Reps.mono (.put e3) _ _ (Reps.set r1' m rr)⟩
        exact ⟨a, vs, k, m, rfl, r3, e3, by rw [← rr.length]; exact ixR_eq e2, q.nx _ _ h3 μ3 σ _ (p1.trans (p2.trans p3)) f4 (g1.trans (g2.trans (g3.trans g4)))⟩
      · exact h3.elim
    · exact h3.elim
  · exact h3.elim
/-- o.append(e), o a name that holds a list cell -/
@[reducible] def tAp (i : Nat) (te : TEp) : TEp := fun ρ S R => match sltAt ρ i with
  | some (.cel j) => match cellAt S j with
    | some (.lst _) => te ρ S fun v S2 => match v with
      | .d y => match cellAt S2 j with
        | some (.lst xs) => xs.length < sizeLine ∧ R (.d .none) (setS S2 j (.lst (snocD xs y)))
        | _ => False
      | _ => False
    | _ => False
  | _ => False
theorem w_append {i : Nat} {o a : Expr} {ta : TEp} {apos cpos : Pos} (ha : WE X a ta) (hp : ∀ t, PE X a t → PE X (.Call (.Attribute o "append" apos) [a] [] cpos) (tBM X.K "list" rAppend (tVar i) (tCons t tNil))) :
    WE X (.Call (.Attribute o "append" apos) [a] [] cpos) (tAp i ta) := by
  refine ⟨fun c => pe_w (hp _ (ha.pe c)) fun σ H Q ⟨μ, ρ, S, R, f, h, q⟩ => ?_⟩
  unfold tAp at h
  split at h
  · rename_i j e0
    obtain ⟨v1, hv, a, ha, rfl⟩ := f.slot (sltAt_get e0)
    split at h
    · rename_i xs0 e1
      rw [cellAt_get] at e1
      obtain ⟨a', ha', vs, e3, rr⟩ := f.at e1
      rw [ha] at ha'; cases ha'
      refine ⟨_, hv, .inl ⟨rfl, _, .of e3⟩, μ, ρ, S, _, f, h, fun y S2 h2 μ2 v2 H2 p2 f2 r2 g2 => ?_⟩
      split at h2
      · rename_i y'
        rw [cellAt_get] at h2
        split at h2
        · rename_i ys e4
          obtain ⟨hz, h2⟩ := h2
          obtain ⟨a', ha', ws, e5, rr2⟩ := f2.at e4
          have ha3 := p2.get ha
          rw [ha3] at ha'; cases ha'
          obtain ⟨f4, g4⟩ := f2.write (o := .lst (ws ++ [v2])) (y := .lst (snocD ys y')) e4 ha3 ⟨_, upd_same, by rw [snocD_eq]; exact Reps.mono (.put e5) _ _ (rr2.append (.one r2))⟩
          refine ⟨a, ws, v2, rfl, rfl, e5, by rw [← rr2.length]; exact hz, ?_⟩
          exact q (.d .none) _ h2 μ2 .non _ p2 f4 rfl (g2.trans g4)
        · exact h2.elim
      · exact h2.elim
    · exact h.elim
  · exact h.elim
end
end Pu

set_option autoImplicit false
namespace Pu
open PySem PySem.Spec PyProof.Rows L2

/-! ### what is walked -/
/-- from H on (whatever is added to it) the iterator gives just these items -/
structure ItIs (K : PySem.W.Frag) (J : It) (items : List PyData) (H : Hp) : Prop where
  go : ∀ H1, Ge H H1 → ∀ i, i < items.length → J.go i H1
  yld : ∀ H1, Ge H H1 → ∀ i d, items[i]? = some d → ∀ v H', J.yld i H1 v H' → Rep K H' d v ∧ Same H1 H'
  stop : ∀ H1, Ge H H1 → J.stop items.length H1
abbrev TIp := Rho → Sto → (List PyData → Sto → Prop) → Prop
structure WI (X : Cx) (tg iter : Expr) (ti : TIp) : Prop where
  ex : ∀ c, ∃ wi, PI X tg iter wi ∧ ∀ μ ρ S σ H R (Q : It → Hp → Prop), Fr X.K c μ ρ S σ H → ti ρ S R →
    (∀ items S1, R items S1 → ∀ μ1 H1 J, Pre μ μ1 → Fr X.K c μ1 ρ S1 σ H1 → Ge H H1 → ItIs X.K J items H1 → Q J H1) → wi σ H Q
section
variable {K : PySem.W.Frag} {J : It} {items : List PyData} {vs : List V} {H : Hp}
theorem itIs_at {n : Nat} {G : Hp → Prop} {f : Nat → Option V} (w : Walk J n G (fun i H x H' => H' = H ∧ f i = some x)) (hn : items.length = n) (hg : ∀ H1, Ge H H1 → G H1) (hr : ∀ i d v, items[i]? = some d → f i = some v → Rep K H d v) : ItIs K J items H :=
  ⟨fun H1 g i hi => w.goes i H1 (by omega) (hg H1 g), fun H1 g i d hd v H' y => by
    have hi : i < n := by rw [← hn]; exact (List.getElem?_eq_some_iff.mp hd).1
    obtain ⟨e, z⟩ := w.yields i H1 v H' hi (hg H1 g) y
    subst e
    exact ⟨Rep.mono g _ _ (hr i d v hd z), .refl _⟩, fun H1 g => by rw [hn]; exact w.stops H1 (hg H1 g)⟩
theorem itIs_pair {n : Nat} {G : Hp → Prop} {f g : Nat → Option V} {a b : Nat → Option PyData} (w : Walk J n G (YPair f g)) (hn : items.length = n) (hg : ∀ H1, Ge H H1 → G H1) (hi : ∀ i d, items[i]? = some d → ∃ x y, d = .tuple [x, y] ∧ a i = some x ∧ b i = some y)
    (ha : ∀ i x v, a i = some x → f i = some v → Rep K H x v) (hb : ∀ i x v, b i = some x → g i = some v → Rep K H x v) : ItIs K J items H :=
  ⟨fun H1 q i hl => w.goes i H1 (by omega) (hg H1 q), fun H1 q i d hd v H' y => by
    have hl : i < n := by rw [← hn]; exact (List.getElem?_eq_some_iff.mp hd).1
    obtain ⟨T, x, z, rfl, nT, rfl, e1, e2⟩ := w.yields i H1 v H' hl (hg H1 q) y
    obtain ⟨dx, dy, rfl, h1, h2⟩ := hi i d hd
    exact ⟨⟨T, [x, z], rfl, .of upd_same, ⟨x, [z], rfl, Rep.mono (q.trans (.new nT)) _ _ (ha i dx x h1 e1), z, [], rfl, Rep.mono (q.trans (.new nT)) _ _ (hb i dy z h2 e2), rfl⟩⟩, same_new nT⟩, fun H1 q => by rw [hn]; exact w.stops H1 (hg H1 q)⟩
theorem Reps.at {ds : List PyData} {vs : List V} (r : Reps K H ds vs) {i : Nat} {d : PyData} {v : V} (h1 : ds[i]? = some d) (h2 : vs[i]? = some v) : Rep K H d v := by
  obtain ⟨u, e, q⟩ := r.get h1
  rw [h2] at e; cases e; exact q
end
section
variable {X : Cx} {tg : Expr} {e e2 : Expr} {te : TEp} {pos p : Pos}
/-- a list -/
@[reducible] def iLs (te : TEp) : TIp := fun ρ S R => te ρ S fun x S1 => match x with
  | .d (.list xs) => R xs S1
  | _ => False
theorem wi_list (h : WE X e te) : WI X tg e (iLs te) := by
  refine ⟨fun c => ⟨_, pi_list (h.pe c), fun μ ρ S σ H R Q f h q => ?_⟩⟩
  refine ⟨μ, ρ, S, _, f, h, fun x S1 h1 μ1 v1 H1 p1 f1 r1 g1 => ?_⟩
  split at h1
  · rename_i xs
    obtain ⟨a, vs, rfl, s, rr⟩ := r1
    refine ⟨a, rfl, ⟨vs, s.seq⟩, q xs S1 h1 μ1 H1 _ p1 f1 g1 (itIs_at (f := fun i => vs[i]?) walk_list rr.length (fun H2 g => (s.mono g).seq) fun i d v e1 e2 => rr.at e1 e2)⟩
  · exact h1.elim
/-- a tuple -/
@[reducible] def iTp (te : TEp) : TIp := fun ρ S R => te ρ S fun x S1 => match x with
  | .d (.tuple xs) => R xs S1
  | _ => False
theorem wi_tup (h : WE X e te) : WI X tg e (iTp te) := by
  refine ⟨fun c => ⟨_, pi_tup (h.pe c), fun μ ρ S σ H R Q f h q => ?_⟩⟩
  refine ⟨μ, ρ, S, _, f, h, fun x S1 h1 μ1 v1 H1 p1 f1 r1 g1 => ?_⟩
  split at h1
  · rename_i xs
    obtain ⟨a, vs, rfl, s, rr⟩ := r1
    refine ⟨a, rfl, ⟨vs, s⟩, q xs S1 h1 μ1 H1 _ p1 f1 g1 (itIs_at (f := fun i => vs[i]?) walk_tup rr.length (fun H2 g => sqT_mono g s) fun i d v e1 e2 => rr.at e1 e2)⟩
  · exact h1.elim
def rngD (lo : Int) (n : Nat) : List PyData := (List.range n).map fun i => .int (lo + (i : Nat))
theorem itIs_range {K : PySem.W.Frag} {H : Hp} {lo : Int} {n : Nat} : ItIs K (Itr lo n) (rngD lo n) H := by
  refine itIs_at (n := n) (G := fun _ => True) (f := fun i => some (.int (lo + (i : Nat)))) ?_ (by simp [rngD]) (fun _ _ => trivial) fun i d v h1 h2 => ?_
  · exact walk_range.mono (fun _ h => h) fun i H x H' _ _ y => ⟨y.1, by rw [y.2]⟩
  · simp only [rngD, List.getElem?_map, Option.map_eq_some_iff] at h1
    obtain ⟨j, hj, rfl⟩ := h1
    simp only [List.getElem?_eq_some_iff, List.getElem_range] at hj
    obtain ⟨_, rfl⟩ := hj
    cases h2; rfl
theorem rngD_at {lo : Int} {n i : Nat} {d : PyData} (h : (rngD lo n)[i]? = some d) : d = .int (lo + (i : Nat)) ∧ i < n := by
  simp only [rngD, List.getElem?_map, Option.map_eq_some_iff] at h
  obtain ⟨j, hj, rfl⟩ := h
  simp only [List.getElem?_eq_some_iff, List.getElem_range] at hj
  obtain ⟨hl, rfl⟩ := hj
  exact ⟨rfl, by simpa using hl⟩
theorem rngD_len {lo : Int} {n : Nat} : (rngD lo n).length = n := by simp [rngD]
@[reducible] def iRg1 (ta : TAp) : TIp := fun ρ S R => ta ρ S fun xs S1 => match xs with
  | [.d (.int j)] => (-(2 ^ 62) ≤ j ∧ j < 2 ^ 62) ∧ R (rngD 0 j.toNat) S1
  | _ => False
@[reducible] def iRg2 (ta : TAp) : TIp := fun ρ S R => ta ρ S fun xs S1 => match xs with
  | [.d (.int i), .d (.int j)] => (-(2 ^ 62) ≤ i ∧ i < 2 ^ 62 ∧ -(2 ^ 62) ≤ j ∧ j < 2 ^ 62) ∧ R (rngD i (j - i).toNat) S1
  | _ => False
theorem wi_range1 {ta : TAp} {n : Nat} (hg : Gl X "range") (hm : X.mg "range" = none) (ha : WA X [e] n ta) (hs : starEach [e] X.env = [(false, eval e X.env)] := by rfl) : WI X tg (.Call (.Name "range" p) [e] [] pos) (iRg1 ta) := by
  refine ⟨fun c => ⟨_, pi_range1 hg hm (ha.pa c) hs, fun μ ρ S σ H R Q f h q => ?_⟩⟩
  refine ⟨μ, ρ, S, _, f, h, fun xs S1 h1 hl μ1 vs H1 p1 f1 r1 g1 => ?_⟩
  split at h1
  · rename_i j
    match r1 with
    | .cons r .nil =>
      obtain ⟨⟨b1, b2⟩, h1⟩ := h1
      exact ⟨j, by rw [show _ = V.int j from r], b1, b2, q _ S1 h1 μ1 H1 _ p1 f1 g1 itIs_range⟩
  · exact h1.elim
theorem wi_range2 {ta : TAp} {n : Nat} (hg : Gl X "range") (hm : X.mg "range" = none) (ha : WA X [e, e2] n ta) (hs : starEach [e, e2] X.env = [(false, eval e X.env), (false, eval e2 X.env)] := by rfl) (hs2 : starEach [e2] X.env = [(false, eval e2 X.env)] := by rfl) :
    WI X tg (.Call (.Name "range" p) [e, e2] [] pos) (iRg2 ta) := by
  refine ⟨fun c => ⟨_, pi_range2 hg hm (ha.pa c) hs hs2, fun μ ρ S σ H R Q f h q => ?_⟩⟩
  refine ⟨μ, ρ, S, _, f, h, fun xs S1 h1 hl μ1 vs H1 p1 f1 r1 g1 => ?_⟩
  split at h1
  · rename_i i j
    match r1 with
    | .cons r (.cons r' .nil) =>
      obtain ⟨b, h1⟩ := h1
      exact ⟨i, j, by rw [show _ = V.int i from r, show _ = V.int j from r'], b, q _ S1 h1 μ1 H1 _ p1 f1 g1 itIs_range⟩
  · exact h1.elim
/-- zip of two lists -/
@[reducible] def zipD : List PyData → List PyData → List PyData
  | x :: xs, y :: ys => .tuple [x, y] :: zipD xs ys
  | _, _ => []
theorem zipD_len : ∀ xs ys : List PyData, (zipD xs ys).length = min xs.length ys.length
  | [], _ => by simp [zipD]
  | _ :: _, [] => by simp [zipD]
  | _ :: xs, _ :: ys => by rw [zipD, List.length_cons, zipD_len xs ys, List.length_cons, List.length_cons]; omega
theorem zipD_at : ∀ (xs ys : List PyData) (i : Nat) (d : PyData), (zipD xs ys)[i]? = some d → ∃ x y, d = .tuple [x, y] ∧ xs[i]? = some x ∧ ys[i]? = some y
  | [], _, i, d, h => by simp [zipD] at h
  | _ :: _, [], i, d, h => by simp [zipD] at h
  | x :: xs, y :: ys, 0, d, h => by simp [zipD] at h; exact ⟨x, y, h.symm, rfl, rfl⟩
  | x :: xs, y :: ys, i + 1, d, h => by
    have h' : (zipD xs ys)[i]? = some d := by simpa [zipD] using h
    obtain ⟨a, b, e, h1, h2⟩ := zipD_at xs ys i d h'
    exact ⟨a, b, e, h1, by simpa using h2⟩
@[reducible] def iZp (ta : TAp) : TIp := fun ρ S R => ta ρ S fun xs S1 => match xs with
  | [.d (.list xs), .d (.list ys)] => R (zipD xs ys) S1
  | _ => False
theorem itIs_zip {K : PySem.W.Frag} {H : Hp} {a b : Addr} {xs ys : List PyData} {us ws : List V} (s : SqF K H a us) (s' : SqF K H b ws) (rr : Reps K H xs us) (rr' : Reps K H ys ws) : ItIs K (Itz K a b) (zipD xs ys) H := by
  have w := walk_zip (K := K) (a := a) (b := b) (xs := us) (ys := ws) rfl
  refine itIs_pair (a := fun i => xs[i]?) (b := fun i => ys[i]?) w ?_ (fun H2 g => ⟨(s.mono g).seq, (s'.mono g).seq⟩) (fun i d hd => zipD_at xs ys i d hd) (fun i x v e1 e2 => rr.at e1 e2) (fun i x v e1 e2 => rr'.at e1 e2)
  rw [zipD_len, rr.length, rr'.length]
theorem wi_zip {ta : TAp} {n k : Nat} {elts : List Expr} {tpos : Pos} (ha : WA X [e, e2] n ta)
    (hp : ∀ t, PA X [e, e2] t → PI X (.Tuple elts k tpos) (.Call (.Name "zip" p) [e, e2] [] pos) (iZip X.K t)) : WI X (.Tuple elts k tpos) (.Call (.Name "zip" p) [e, e2] [] pos) (iZp ta) := by
  refine ⟨fun c => ⟨_, hp _ (ha.pa c), fun μ ρ S σ H R Q f h q => ?_⟩⟩
  refine ⟨μ, ρ, S, _, f, h, fun xs S1 h1 hl μ1 vs H1 p1 f1 r1 g1 => ?_⟩
  split at h1
  · rename_i xs ys
    cases r1 with
    | cons r r1 =>
      cases r1 with
      | cons r' r1 =>
        cases r1
        obtain ⟨a, us, e1, s, rr⟩ := r
        obtain ⟨b, ws, e2, s', rr'⟩ := r'
        exact ⟨a, b, us, ws, by rw [e1, e2], s.seq, s'.seq, q _ S1 h1 μ1 H1 _ p1 f1 g1 (itIs_zip s s' rr rr')⟩
  · exact h1.elim
@[reducible] def enumF : Nat → List PyData → List PyData
  | _, [] => []
  | n, x :: xs => .tuple [.int (n : Nat), x] :: enumF (n + 1) xs
@[reducible] def enumD (xs : List PyData) : List PyData := enumF 0 xs
theorem enumF_len : ∀ (n : Nat) (xs : List PyData), (enumF n xs).length = xs.length
  | _, [] => rfl
  | n, _ :: xs => by rw [enumF, List.length_cons, enumF_len (n + 1) xs, List.length_cons]
theorem enumF_at : ∀ (n : Nat) (xs : List PyData) (i : Nat) (d : PyData), (enumF n xs)[i]? = some d → ∃ x, d = .tuple [.int ((n + i : Nat) : Int), x] ∧ xs[i]? = some x
  | _, [], i, d, h => by simp [enumF] at h
  | n, x :: xs, 0, d, h => by simp [enumF] at h; exact ⟨x, by rw [← h]; simp, rfl⟩
  | n, x :: xs, i + 1, d, h => by
    have h' : (enumF (n + 1) xs)[i]? = some d := by simpa [enumF] using h
    obtain ⟨a, e, h1⟩ := enumF_at (n + 1) xs i d h'
    exact ⟨a, by rw [e]; congr 4; omega, h1⟩
@[reducible] def iEn (ta : TAp) : TIp := fun ρ S R => ta ρ S fun xs S1 => match xs with
  | [.d (.list xs)] => R (enumD xs) S1
  | _ => False
theorem itIs_enum {K : PySem.W.Frag} {H : Hp} {a : Addr} {xs : List PyData} {us : List V} (s : SqF K H a us) (rr : Reps K H xs us) : ItIs K (Ite K a) (enumD xs) H := by
  have w := walk_enum (K := K) (a := a) (xs := us)
  refine itIs_pair (a := fun i => some (.int ((i : Nat) : Int))) (b := fun i => xs[i]?) w ?_ (fun H2 g => (s.mono g).seq) (fun i d hd => ?_) (fun i x v e1 e2 => ?_) (fun i x v e1 e2 => rr.at e1 e2)
  · rw [enumD, enumF_len, rr.length]
  · obtain ⟨x, e, h⟩ := enumF_at 0 xs i d hd
    exact ⟨_, x, e, by simp, h⟩
  · have h1 : x = .int ((i : Nat) : Int) := (Option.some.inj e1).symm
    have h2 : v = .int ((i : Nat) : Int) := (Option.some.inj e2).symm
    subst h1; subst h2; rfl
theorem wi_enum {ta : TAp} {n k : Nat} {elts : List Expr} {tpos : Pos} (ha : WA X [e] n ta)
    (hp : ∀ t, PA X [e] t → PI X (.Tuple elts k tpos) (.Call (.Name "enumerate" p) [e] [] pos) (iEnum X.K t)) : WI X (.Tuple elts k tpos) (.Call (.Name "enumerate" p) [e] [] pos) (iEn ta) := by
  refine ⟨fun c => ⟨_, hp _ (ha.pa c), fun μ ρ S σ H R Q f h q => ?_⟩⟩
  refine ⟨μ, ρ, S, _, f, h, fun xs S1 h1 hl μ1 vs H1 p1 f1 r1 g1 => ?_⟩
  split at h1
  · rename_i xs
    cases r1 with
    | cons r r1 =>
      cases r1
      obtain ⟨a, us, e1, s, rr⟩ := r
      exact ⟨a, us, by rw [e1], s.seq, q _ S1 h1 μ1 H1 _ p1 f1 g1 (itIs_enum s rr)⟩
  · exact h1.elim
@[reducible] def iRv (ta : TAp) : TIp := fun ρ S R => ta ρ S fun xs S1 => match xs with
  | [.d (.list xs)] => R xs.reverse S1
  | _ => False
theorem itIs_rev {K : PySem.W.Frag} {H : Hp} {a : Addr} {xs : List PyData} {us : List V} (s : SqF K H a us) (rr : Reps K H xs us) : ItIs K (Itv K a us.length) xs.reverse H := by
  have w := (walk_rev (K := K) (a := a) (xs := us)).mono (G' := fun H => SqL K H a us) (Y' := fun i H x H' => H' = H ∧ (if i < us.length then us[us.length - 1 - i]? else none) = some x) (fun _ h => h) fun i H x H' hi _ y => ⟨y.1, by rw [if_pos hi]; exact y.2⟩
  refine itIs_at w (by rw [List.length_reverse, rr.length]) (fun H2 g => (s.mono g).seq) fun i d v e1 e2 => ?_
  have hi : i < xs.length := by
    have := (List.getElem?_eq_some_iff.mp e1).1
    rwa [List.length_reverse] at this
  rw [if_pos (by rw [← rr.length]; exact hi)] at e2
  rw [List.getElem?_reverse hi, rr.length] at e1
  exact rr.at e1 e2
theorem wi_rev {ta : TAp} {n : Nat} (hg : Gl X "reversed") (hm : X.mg "reversed" = none) (ha : WA X [e] n ta) (hs : starEach [e] X.env = [(false, eval e X.env)] := by rfl) : WI X tg (.Call (.Name "reversed" p) [e] [] pos) (iRv ta) := by
  refine ⟨fun c => ⟨_, pi_reversed hg hm (ha.pa c) hs, fun μ ρ S σ H R Q f h q => ?_⟩⟩
  refine ⟨μ, ρ, S, _, f, h, fun xs S1 h1 hl μ1 vs H1 p1 f1 r1 g1 => ?_⟩
  split at h1
  · rename_i xs
    cases r1 with
    | cons r r1 =>
      cases r1
      obtain ⟨a, us, e1, s, rr⟩ := r
      exact ⟨a, us, by rw [e1], s.seq, q _ S1 h1 μ1 H1 _ p1 f1 g1 (itIs_rev s rr)⟩
  · exact h1.elim

/-! ### for, while -/
/-- what is to hold behind a turn: as it is, or with slots and cells forgotten -/
def Nx (b : Nat) (I : Rho → Sto → Prop) : Rho → Sto → Prop := fun ρ S => I ρ S ∨ ∃ ρ' S', WkS b ρ S ρ' S' ∧ I ρ' S'
theorem Nx.out {K : PySem.W.Frag} {c : FP} {b : Nat} {I : Rho → Sto → Prop} {ρ : Rho} {S : Sto} {μ1 μ : List Addr} {σ : L2.St} {H : Hp} (h : Nx b I ρ S) (f : Fr K c μ ρ S σ H) (p : Pre μ1 μ) (hb : μ1.length = b) : ∃ μ' ρ' S', Pre μ1 μ' ∧ Fr K c μ' ρ' S' σ H ∧ I ρ' S' := by
  rcases h with h | ⟨ρ', S', w, h⟩
  · exact ⟨μ, ρ, S, p, f, h⟩
  · exact ⟨_, ρ', S', p.take (by rw [hb]; exact w.1), f.wk w, h⟩
/-- the turns of a for over these items -/
def FrB (g : TGp) (tb : TSp) (nx : Rho → Sto → Prop) (rt : PQ) (ρ0 : Rho) (items : List PyData) (S1 : Sto) : Prop := ∃ I : Nat → Rho → Sto → Prop, I 0 ρ0 S1 ∧
  (∀ i d ρ S, items[i]? = some d → I i ρ S → g d ρ fun ρ1 => tb ⟨Nx (lenS S1) (I (i + 1)), rt, nx, Nx (lenS S1) (I (i + 1))⟩ ρ1 S) ∧ ∀ ρ S, I items.length ρ S → nx ρ S
@[reducible] def tFr (ti : TIp) (g : TGp) (tb : TSp) : TSp := fun E ρ S => match E with | ⟨nx, rt, _, _⟩ => ti ρ S fun items S1 => FrB g tb nx rt ρ items S1
theorem ws_for {iter : Expr} {body : List Stmt} {ti : TIp} {ws : List Nat} {g : TGp} {tb : TSp} (hp : PassesOwn (model X.prog X.w) X.A X.env X.xe) (hc : X.calm = true) (hi : WI X tg iter ti) (hg : WG X tg ws g) (hb : WSs X body tb) (hs : ∀ x, foldedSetIterable iter X.env x = pure x := by intro _; rfl) : WS X (.For tg iter body [] pos) (tFr ti g tb) := by
  refine ⟨fun c => ?_⟩
  obtain ⟨wi, hpi, hw⟩ := hi.ex c
  refine ps_w (L2.ps_for hp hc hpi (hg.pg c) (hb.ps c) hs) fun D σ H ⟨μ, ρ, S, E, f, h, q⟩ => ?_
  refine hw μ ρ S σ H _ _ f h fun items S1 h1 μ1 H1 J p1 f1 g1 it => ?_
  obtain ⟨I, i0, step, done⟩ := h1
  refine ⟨fun i m σ' H' => m = items.length - i ∧ i ≤ items.length ∧ ∃ μ' ρ' S', Pre μ1 μ' ∧ Ge H1 H' ∧ Fr X.K c μ' ρ' S' σ' H' ∧ I i ρ' S', ⟨items.length, by simp, Nat.zero_le _, μ1, ρ, S1, .refl _, .refl _, f1, i0⟩, ?_⟩
  rintro i m σ' H' ⟨rfl, hle, μ', ρ', S', p', g', f', ii⟩
  by_cases hlt : i < items.length
  · refine .inr ⟨it.go H' g' i hlt, fun σ2 H2 => ∃ μ2 ρ2 S2, Pre μ1 μ2 ∧ Ge H1 H2 ∧ Fr X.K c μ2 ρ2 S2 σ2 H2 ∧ I (i + 1) ρ2 S2, fun σ2 H2 k => ⟨items.length - (i + 1), by omega, rfl, hlt, k⟩, fun x H2 y => ?_⟩
    have hd : items[i]? = some items[i] := by simp [hlt]
    obtain ⟨rx, same⟩ := it.yld H' g' i _ hd x H2 y
    refine ⟨μ', ρ', S', _, _, f'.same same, rx, step i _ ρ' S' hd ii, fun ρ3 h3 σ3 f3 _ => ⟨μ', ρ3, S', _, f3, h3, ?_⟩⟩
    have hb : μ1.length = lenS S1 := by rw [lenS_eq, paired_len f1.cel]
    have next : ∀ ρ4 S4, Nx (lenS S1) (I (i + 1)) ρ4 S4 → ∀ μ4 σ4 H4, Pre μ' μ4 → Fr X.K c μ4 ρ4 S4 σ4 H4 → Ge H2 H4 → ∃ μ2 ρ2 S2, Pre μ1 μ2 ∧ Ge H1 H4 ∧ Fr X.K c μ2 ρ2 S2 σ4 H4 ∧ I (i + 1) ρ2 S2 := fun ρ4 S4 k μ4 σ4 H4 p4 f4 g4 => by
      obtain ⟨μ5, ρ5, S5, p5, f5, k5⟩ := k.out f4 (p'.trans p4) hb
      exact ⟨μ5, ρ5, S5, p5, g'.trans ((Ge.of_same same).trans g4), f5, k5⟩
    refine ⟨fun ρ4 S4 k μ4 σ4 H4 p4 f4 g4 => next ρ4 S4 k μ4 σ4 H4 p4 f4 g4, fun pv S4 k μ4 ρ4 σ4 v4 H4 p4 f4 r4 g4 => q.rt pv S4 k μ4 ρ4 σ4 v4 H4 (p1.trans (p'.trans p4)) f4 r4 (g1.trans (g'.trans ((Ge.of_same same).trans g4))), fun ρ4 S4 k μ4 σ4 H4 p4 f4 g4 => q.nx ρ4 S4 k μ4 σ4 H4 (p1.trans (p'.trans p4)) f4 (g1.trans (g'.trans ((Ge.of_same same).trans g4))), fun ρ4 S4 k μ4 σ4 H4 p4 f4 g4 => next ρ4 S4 k μ4 σ4 H4 p4 f4 g4⟩
  · have e : i = items.length := by omega
    subst e
    exact .inl ⟨it.stop H' g', q.nx ρ' S' (done ρ' S' ii) μ' σ' H' (p1.trans p') f' (g1.trans g')⟩
/-- the turns of a while -/
def WhB (tc : TTp) (tb : TSp) (nx : Rho → Sto → Prop) (rt : PQ) (ρ0 : Rho) (S0 : Sto) : Prop := ∃ I : Nat → Rho → Sto → Prop, (∃ m, I m ρ0 S0) ∧ ∀ m ρ S, I m ρ S → tc ρ S fun b S1 =>
  Br b (tb ⟨Nx (lenS S0) fun ρ' S' => ∃ m', m' < m ∧ I m' ρ' S', rt, nx, Nx (lenS S0) fun ρ' S' => ∃ m', m' < m ∧ I m' ρ' S'⟩ ρ S1) (nx ρ S1)
@[reducible] def tWh (tc : TTp) (tb : TSp) : TSp := fun E ρ0 S0 => match E with | ⟨nx, rt, _, _⟩ => WhB tc tb nx rt ρ0 S0
theorem ws_while {k : Expr} {body : List Stmt} {tc : TTp} {tb : TSp} (hp : PassesOwn (model X.prog X.w) X.A X.env X.xe) (hc : WT X k tc) (hb : WSs X body tb) : WS X (.While k body [] pos) (tWh tc tb) := by
  refine ⟨fun c => ps_w (L2.ps_while hp (hc.pt c) (hb.ps c)) fun D σ H ⟨μ, ρ, S, E, f, h, q⟩ => ?_⟩
  obtain ⟨I, ⟨m0, i0⟩, step⟩ := h
  refine ⟨fun m σ' H' => ∃ μ' ρ' S', Pre μ μ' ∧ Ge H H' ∧ Fr X.K c μ' ρ' S' σ' H' ∧ I m ρ' S', ⟨m0, μ, ρ, S, .refl _, .refl _, f, i0⟩, ?_⟩
  rintro m σ' H' ⟨μ', ρ', S', p', g', f', ii⟩
  refine ⟨μ', ρ', S', _, f', step m ρ' S' ii, fun b S1 h1 μ1 H1 p1 f1 g1 => ?_⟩
  cases b with
  | false => exact iteF (q.nx ρ' S1 h1 μ1 σ' H1 (p'.trans p1) f1 (g'.trans g1))
  | true =>
    refine iteT ⟨fun σ2 H2 => ∃ m', m' < m ∧ ∃ μ2 ρ2 S2, Pre μ μ2 ∧ Ge H H2 ∧ Fr X.K c μ2 ρ2 S2 σ2 H2 ∧ I m' ρ2 S2, fun σ2 H2 ⟨m', hm, k⟩ => ⟨m', hm, k⟩, μ1, ρ', S1, _, f1, h1, ?_⟩
    have hb : μ.length = lenS S := by rw [lenS_eq, paired_len f.cel]
    have next : ∀ ρ4 S4, Nx (lenS S) (fun ρ' S' => ∃ m', m' < m ∧ I m' ρ' S') ρ4 S4 → ∀ μ4 σ4 H4, Pre μ1 μ4 → Fr X.K c μ4 ρ4 S4 σ4 H4 → Ge H1 H4 → ∃ m', m' < m ∧ ∃ μ2 ρ2 S2, Pre μ μ2 ∧ Ge H H4 ∧ Fr X.K c μ2 ρ2 S2 σ4 H4 ∧ I m' ρ2 S2 := fun ρ4 S4 k μ4 σ4 H4 p4 f4 g4 => by
      obtain ⟨μ5, ρ5, S5, p5, f5, m', hm, k5⟩ := k.out f4 (p'.trans (p1.trans p4)) hb
      exact ⟨m', hm, μ5, ρ5, S5, p5, g'.trans (g1.trans g4), f5, k5⟩
    refine ⟨fun ρ4 S4 k μ4 σ4 H4 p4 f4 g4 => next ρ4 S4 k μ4 σ4 H4 p4 f4 g4, fun pv S4 k μ4 ρ4 σ4 v4 H4 p4 f4 r4 g4 => q.rt pv S4 k μ4 ρ4 σ4 v4 H4 (p'.trans (p1.trans p4)) f4 r4 (g'.trans (g1.trans g4)), fun ρ4 S4 k μ4 σ4 H4 p4 f4 g4 => q.nx ρ4 S4 k μ4 σ4 H4 (p'.trans (p1.trans p4)) f4 (g'.trans (g1.trans g4)), fun ρ4 S4 k μ4 σ4 H4 p4 f4 g4 => next ρ4 S4 k μ4 σ4 H4 p4 f4 g4⟩
end
end Pu

set_option autoImplicit false
namespace Pu
open PySem PySem.Spec PyProof.Rows L2

/-! ### what a def is worth -/
abbrev PSp := List PV → Sto → PQ → Prop
def upF (K : PySem.W.Frag) (sp : PSp) : Sp := fun vs H Q _ => ∃ μ args S R, Paired (RepP K H μ) args vs ∧ Paired (CellR K H) S μ ∧ μ.Nodup ∧ sp args S R ∧
  ∀ pv S', R pv S' → ∀ μ' v H', Pre μ μ' → Paired (CellR K H') S' μ' → μ'.Nodup → (∀ a ∈ μ', a ∈ μ ∨ H a = none) → RepP K H' μ' pv v → Ge H H' → (∀ b o, H b = some o → b ∉ μ → H' b = some o) → Q v H'
@[reducible] def dA : List PyData → List PV
  | [] => []
  | x :: r => .d x :: dA r
theorem dA_eq : ∀ ds : List PyData, dA ds = ds.map PV.d
  | [] => rfl
  | x :: r => by rw [dA, dA_eq r]; rfl
/-- data in, data out -/
abbrev PFn := List PyData → (PyData → Prop) → Prop
def pur (f : PFn) : PSp := fun args S R => S = [] ∧ ∃ ds R0, args = dA ds ∧ f ds R0 ∧ ∀ r, R0 r → ∀ S', R (.d r) S'
/-- data in, a new list out -/
def newF (f : List PyData → (List PyData → Prop) → Prop) : PSp := fun args S R => S = [] ∧ ∃ ds R0, args = dA ds ∧ f ds R0 ∧ ∀ xs, R0 xs → ∀ i S', cellAt S' i = some (.lst xs) → R (.cel i) S'
/-- a list cell and data in, data out, the list changed -/
abbrev MFn := List PyData → List PyData → (PyData → List PyData → Prop) → Prop
def mutF (g : MFn) : PSp := fun args S R => ∃ xs ds R0, args = .cel 0 :: dA ds ∧ S = [.lst xs] ∧ g xs ds R0 ∧ ∀ r ys, R0 r ys → ∀ S', R (.d r) (.lst ys :: S')
@[reducible] def startP : Nat → List PV → Rho
  | 0, [] => []
  | n + 1, [] => none :: startP n []
  | n + 1, a :: as => some a :: startP n as
  | 0, _ :: _ => []
theorem startP_eq : ∀ (n : Nat) (args : List PV), args.length ≤ n → startP n args = args.map some ++ List.replicate (n - args.length) none
  | 0, [], _ => by simp [startP]
  | n + 1, [], _ => by
    rw [startP, startP_eq n [] (by simp)]
    simp [List.replicate_succ]
  | n + 1, a :: as, h => by
    rw [startP, startP_eq n as (by simpa using h)]
    simp
  | 0, _ :: _, h => by simp at h
/-! ### a def's promise where no repr is under way -/
structure FnOkG (P : Program) (w : World) (K : PySem.W.Frag) (mg : Str → Option Value) (base : Heap) (k : Nat) (f : Addr) (fd : FuncData) (ps : List Str) (sp : Sp) : Prop where
  len : ∀ vs H Q E, sp vs H Q E → vs.length = ps.length
  go : ∀ (A : Around) (outer : List Env) (s : Shared) (H : Hp) (args : Args) (us : List Value) (vs : List V) (Q : VK) (E : XK), Room k A → A.guards = some [] → Env0 P w K mg base A outer s H → BindsTo s fd args (ps.zip us) →
    Vals vs us → sp vs H Q E → codeAny (model P w) A (.call (.ref f) args) (CR CX0 outer P w H s Q E) s
theorem FnOkG.mono {P : Program} {w : World} {K : PySem.W.Frag} {mg : Str → Option Value} {base : Heap} {j k : Nat} {f : Addr} {fd : FuncData} {ps : List Str} {sp : Sp} (F : FnOkG P w K mg base j f fd ps sp) (h : j ≤ k) :
    FnOkG P w K mg base k f fd ps sp := ⟨F.len, fun A outer s H args us vs Q E hr => F.go A outer s H args us vs Q E (hr.mono h)⟩
section
variable {P : Program} {w : World} {K : PySem.W.Frag} {mg : Str → Option Value} {base : Heap}
theorem okG {x qual : Str} {st : Stmt} {f : Addr} {fd : FuncData} {N ps : List Str} {k : Nat} {sp : Sp} (F : Fun K x qual st f fd) (S : FnScope N ps (defScope st)) (len : ∀ vs H Q E, sp vs H Q E → vs.length = ps.length)
    (hbody : ∀ (cdv : Value) (A : Around) (outer : List Env) (s : Shared) (H : Hp) (vs : List V) (Q : VK) (E : XK), Room k (A.deeper (envOfC qual (defScope st) s.heap.objs.size f cdv)) → (A.deeper (envOfC qual (defScope st) s.heap.objs.size f cdv)).guards = some [] → sp vs H Q E →
      ∃ t, PSs (cxOf CX0 P w K mg base N qual (defScope st) f cdv A outer s H E).nox (defBody st) t ∧ t { nx := fun _ H' => Q .non H', rt := Q } (start N vs) H) : FnOkG P w K mg base (k + 1) f fd ps sp := by
  obtain ⟨oc, od, kV, doc, pm, an, cdv, ct, osl, rfl, lk, hcd⟩ := F.ex
  refine ⟨len, fun A outer s H args us vs Q E room hgs ev bind rv q => ?_⟩
  have inK : K.In s.heap := ev.mod.kin.keeps fun b o e => (ev.bs b o e).1
  have lim : s.heap.NoLimit := ev.mod.nolimit.keeps fun b o e => (ev.bs b o e).1
  have one : ∀ y ∈ ps.zip us, (defScope st).names.lookup y.1 = some .local ∨ ((defScope st).names.lookup y.1 = some .cell ∧ ((cellsFrom (s.heap.objs.size + 1) (defScope st).names []).lookup y.1).isSome = true) := by
    rintro ⟨x, v⟩ hy
    exact (S.par x (List.of_mem_zip hy).1).imp id fun q => ⟨q, PySem.W.cellsFrom_some _ _ _ (.inl q)⟩
  refine codeAny_call_function room.depth (inK _ _ lk) rfl S.co S.gen rfl (PySem.W.codeRec_of inK hcd) (bind _ _ _ _ ?_)
  refine wpAny_newFunctionEnv_cells S.kind one fun env he s1 x => ?_
  subst he
  refine ⟨lim.keeps x.toInCall.keep, codeAny_func ?_⟩
  obtain ⟨t, ht, hq⟩ := hbody cdv A outer s H vs Q E (room.deeper _) hgs q
  have I : Inv (cxOf CX0 P w K mg base N qual (defScope st) f cdv A outer s H E) [] (L2.start N vs) H s1 := inv_start S room.hd ev (len _ _ _ _ q) rv x
  refine wpAny_mono (ht.nox.run [] s1 _ H _ I hq) (fun fl s' hs => ?_) fun e s' hs => hs
  cases fl with
  | ret u =>
    obtain ⟨v, σ', H', J, rv, q⟩ := hs
    exact ⟨v, H', J.os, J.bare, J.base, J.hok, rv, q⟩
  | next =>
    obtain ⟨σ', H', J, q⟩ := hs
    exact ⟨.non, H', J.os, J.bare, J.base, J.hok, rfl, q⟩
  | brk => obtain ⟨_, _, _, q⟩ := hs; exact False.elim q
  | cont => obtain ⟨_, _, _, q⟩ := hs; exact False.elim q
end
section
variable {X : Cx} {k : Nat} {f C : Addr} {fd : FuncData} {ps : List Str} {sp : Sp} {dvs : List V} {ds : List Value} {E : XK} {x m : Str} {p pos apos : Pos} {e o : Expr} {es : List Expr} {ta : TE} {t : TA}
theorem run_fnG {pins : List (Addr × Obj)} {σ : L2.St} {H : Hp} {s : Shared} {Q : VK} {us : List Value} {vs : List V} (F : FnOkG X.prog X.w X.K X.mg X.base k f fd ps sp) (hr : Room k X.A) (hgs : X.A.guards = some []) (hb : Binds X.K fd ps ds) (hd : Vals dvs ds)
    (I : Inv X pins σ H s) (r : Vals vs us) (h : sp (vs ++ dvs) H Q E) : wpAny (model X.prog X.w) X.A (PySem.call (.ref f) us) (EP X pins σ Q) X.xe s := by
  have both : Vals (vs ++ dvs) (us ++ ds) := r.append hd
  have hl : (us ++ ds).length = ps.length := by rw [← both.length]; exact F.len _ _ _ _ h
  refine wpAny_call (codeAny_mono (F.go X.A X.stack s H ⟨us, []⟩ _ _ Q E hr hgs I.env0 (hb s us I.kIn hl) both h) fun r s' hq => ?_)
  match r, hq with
  | .error _, hq => exact False.elim hq
  | .ok (.ret _), hq => exact I.after hq
  | .ok .next, hq => exact False.elim hq
  | .ok .brk, hq => exact False.elim hq
  | .ok .cont, hq => exact False.elim hq
theorem pe_callG (F : FnOkG X.prog X.w X.K X.mg X.base k f fd ps sp) (hr : Room k X.A) (hgs : X.A.guards = some []) (hg : Gl X x) (hm : X.mg x = some (.ref f)) (hk : PySem.W.keepIn X.K (.ref f) = true) (hb : Binds X.K fd ps ds) (hd : Vals dvs ds)
    (ha : PA X (e :: es) t) (hdb : (x == ("__debug__" : Str)) = false := by decide) (he : starEach (e :: es) X.env = (false, eval e X.env) :: starEach es X.env := by rfl) (hpl : (backTo pos (starEach es X.env)).any (·.1) = false := by rfl) :
    PE X (.Call (.Name x p) (e :: es) [] pos) (tCall sp dvs E t) :=
  ⟨fun pins s σ H Q I h => wpAny_Call_Name_kw (ld_glob I hg hm
    (PySem.W.callWith_K (h₀ := X.base) I.ok.mod.kin hk (thn (ha.run pos pins s σ H _ I h) fun us s1 ⟨_, _, J, r, q⟩ => ⟨J.kIn, run_fnG F hr hgs hb hd J r q⟩) he hpl) hdb)⟩
theorem pe_callG0 (F : FnOkG X.prog X.w X.K X.mg X.base k f fd ps sp) (hr : Room k X.A) (hgs : X.A.guards = some []) (hg : Gl X x) (hm : X.mg x = some (.ref f)) (hk : PySem.W.keepIn X.K (.ref f) = true) (hb : Binds X.K fd ps ds) (hd : Vals dvs ds)
    (hdb : (x == ("__debug__" : Str)) = false := by decide) : PE X (.Call (.Name x p) [] [] pos) (tCall sp dvs E tNil) :=
  ⟨fun _ _ _ _ _ I h => wpAny_Call_Name_kw (ld_glob I hg hm (PySem.W.callWith_K0 I.kIn hk (run_fnG (us := []) F hr hgs hb hd I .nil h)) hdb)⟩
end
section
variable {P : Program} {w : World} {K : PySem.W.Frag} {mg : Str → Option Value} {base : Heap}
theorem start_slots {H : Hp} {μ : List Addr} : ∀ {args : List PV} {vs : List V}, Paired (RepP K H μ) args vs → ∀ n, Paired (SlotR K H μ) (args.map some ++ List.replicate n none) (vs.map some ++ List.replicate n none)
  | _, _, .nil, n => by
    simp only [List.map_nil, List.nil_append]
    induction n with
    | zero => exact .nil
    | succ n ih => rw [List.replicate_succ, List.replicate_succ]; exact .cons trivial ih
  | _, _, .cons r t, n => .cons r (start_slots t n)
/-- THE RULE for a def: its body's term, and what the term says at the arguments -/
theorem okP {x qual : Str} {st : Stmt} {f : Addr} {fd : FuncData} {N ps : List Str} {k n : Nat} {sp : PSp} {t : TSp} (F : Fun K x qual st f fd) (S : FnScope N ps (defScope st)) (hn : N.length = n)
    (len : ∀ args S R, sp args S R → args.length = ps.length)
    (hw : ∀ (cdv : Value) (A : Around) (outer : List Env) (s : Shared) (H : Hp) (E : XK), Room k (A.deeper (envOfC qual (defScope st) s.heap.objs.size f cdv)) → (A.deeper (envOfC qual (defScope st) s.heap.objs.size f cdv)).guards = some [] →
      WSs (cxOf CX0 P w K mg base N qual (defScope st) f cdv A outer s H E).nox (defBody st) t)
    (hb : ∀ args S R, sp args S R → t { nx := fun _ S' => R (.d .none) S', rt := R } (startP n args) S) : FnOkG P w K mg base (k + 1) f fd ps (upF K sp) := by
  refine okG F S (fun vs H Q E h => ?_) (fun cdv A outer s H vs Q E hr hgs h => ?_)
  · obtain ⟨μ, args, S, R, r, _, _, h, _⟩ := h
    rw [← paired_len r]; exact len _ _ _ h
  · obtain ⟨μ, args, S0, R, r, rc, nd, h, q⟩ := h
    refine ⟨_, (hw cdv A outer s H E hr hgs).ps ⟨H, fun a => a ∈ μ⟩, μ, startP n args, S0, _, ⟨?_, rc, nd, fun a ha => .inl ha, fun b o e _ => e⟩, hb args S0 R h, ?_⟩
    · have := start_slots r (n - args.length)
      have hle : args.length ≤ n := by
        rw [len _ _ _ h, ← hn]
        have := congrArg List.length S.pre
        rw [List.length_take] at this
        omega
      rw [startP_eq n args hle]
      unfold L2.start
      rw [hn, ← paired_len r]
      exact this
    · refine ⟨fun ρ' S' hx μ' σ' H' p f' g => ?_, fun pv S' hx μ' ρ' σ' v H' p f' rp g => ?_, fun _ _ hx => hx.elim, fun _ _ hx => hx.elim⟩
      · exact q _ _ hx μ' .non H' p f'.cel f'.nd f'.own rfl g fun b o e n => f'.keep b o e n
      · exact q _ _ hx μ' v H' p f'.cel f'.nd f'.own rp g fun b o e n => f'.keep b o e n
end

/-! ### calls -/
theorem pairedD {K : PySem.W.Frag} {H : Hp} {μ : List Addr} : ∀ {ds : List PyData} {vs : List V}, Reps K H ds vs → Paired (RepP K H μ) (dA ds) vs
  | [], _, h => by rw [show _ = [] from h]; exact .nil
  | _ :: _, _, ⟨_, _, e, r, t⟩ => by subst e; exact .cons r (pairedD t)
theorem same_of {H H' : Hp} (h : ∀ b o, H b = some o → b ∉ ([] : List Addr) → H' b = some o) : Same H H' := fun b o e => h b o e (by simp)
section
variable {X : Cx} {k n : Nat} {f : Addr} {fd : FuncData} {ps : List Str} {x : Str} {p pos : Pos} {e : Expr} {es : List Expr} {ta : TAp}
@[reducible] def tCl (f : PFn) (ta : TAp) : TEp := fun ρ S R => ta ρ S fun pvs S1 => match dsP pvs with
  | some ds => f ds fun r => R (.d r) S1
  | none => False
/-- the reading that a call by any road asks: data -/
theorem call_up {fn : PFn} {c : FP} {σ : L2.St} {H : Hp} {Q : VK} (h : up X.K c (tCl fn ta) σ H Q) : tCall (upF X.K (pur fn)) [] E0 (upA X.K c n ta) σ H Q := by
  obtain ⟨μ, ρ, S, R, f, h, q⟩ := h
  refine ⟨μ, ρ, S, _, f, h, fun pvs S1 h1 hl μ1 vs H1 p1 f1 r1 g1 => ?_⟩
  split at h1
  · rename_i ds e
    obtain ⟨rr, _⟩ := dsP_rep r1 e
    refine ⟨[], dA ds, [], fun pv _ => match pv with | .d r => R (.d r) S1 | .cel _ => False, by rw [List.append_nil]; exact pairedD rr, .nil, .nil, ⟨rfl, ds, _, rfl, h1, fun r hr _ => hr⟩, fun pv S' hR μ' v H' p' _ _ _ rp g same => ?_⟩
    · cases pv with
      | d r => exact q (.d r) S1 hR μ1 v H' p1 (f1.same (same_of same)) rp (g1.trans g)
      | cel _ => exact hR.elim
  · exact h1.elim
theorem w_call {fn : PFn} (F : FnOkG X.prog X.w X.K X.mg X.base k f fd ps (upF X.K (pur fn))) (hr : Room k X.A) (hgs : X.A.guards = some []) (hg : Gl X x) (hm : X.mg x = some (.ref f)) (hk : PySem.W.keepIn X.K (.ref f) = true) (hb : Binds X.K fd ps [])
    (ha : WA X (e :: es) n ta) (hdb : (x == ("__debug__" : Str)) = false := by decide) (he : starEach (e :: es) X.env = (false, eval e X.env) :: starEach es X.env := by rfl) (hpl : (backTo pos (starEach es X.env)).any (·.1) = false := by rfl) :
    WE X (.Call (.Name x p) (e :: es) [] pos) (tCl fn ta) :=
  ⟨fun c => pe_w (pe_callG F hr hgs hg hm hk hb .nil (ha.pa c) hdb he hpl) fun _ _ _ h => call_up h⟩
/-- a def that changes the list cell which is its first argument -/
@[reducible] def tClM (g : MFn) (ta : TAp) : TEp := fun ρ S R => ta ρ S fun pvs S1 => match pvs with
  | .cel i :: rest => match cellAt S1 i, dsP rest with
    | some (.lst xs), some ds => g xs ds fun r ys => R (.d r) (setS S1 i (.lst ys))
    | _, _ => False
  | _ => False
theorem callM_up {g : MFn} {c : FP} {σ : L2.St} {H : Hp} {Q : VK} (h : up X.K c (tClM g ta) σ H Q) : tCall (upF X.K (mutF g)) [] E0 (upA X.K c n ta) σ H Q := by
  obtain ⟨μ, ρ, S, R, f, h, q⟩ := h
  refine ⟨μ, ρ, S, _, f, h, fun pvs S1 h1 hl μ1 vs H1 p1 f1 r1 g1 => ?_⟩
  split at h1
  · rename_i i rest
    cases r1 with
    | cons ri r1 =>
      obtain ⟨a, ha, rfl⟩ := ri
      split at h1
      · rename_i xs ds e1 e2
        rw [cellAt_get] at e1
        obtain ⟨a', ha', cr⟩ := f1.at e1
        rw [ha] at ha'; cases ha'
        obtain ⟨rr, _⟩ := dsP_rep r1 e2
        refine ⟨[a], .cel 0 :: dA ds, [.lst xs], fun pv S' => ∃ r ys S2, pv = .d r ∧ S' = .lst ys :: S2 ∧ R (.d r) (setS S1 i (.lst ys)), ?_, .cons cr .nil, by simp, ⟨xs, ds, _, rfl, rfl, h1, fun r ys hr S' => ⟨r, ys, S', rfl, rfl, hr⟩⟩, fun pv S' hR μ' v H' p' rc _ own rp gg same => ?_⟩
        · rw [List.append_nil]; exact .cons ⟨a, rfl, rfl⟩ (pairedD rr)
        · obtain ⟨r, ys, S2, rfl, rfl, hR⟩ := hR
          obtain ⟨rest', rfl⟩ := p'
          cases rc with
          | cons c0 _ =>
            exact q (.d r) _ hR μ1 v H' p1 (f1.put ha (fun b o e hb => same b o e (by simpa using hb)) gg c0) rp (g1.trans gg)
      · exact h1.elim
  · exact h1.elim
theorem w_callM {g : MFn} (F : FnOkG X.prog X.w X.K X.mg X.base k f fd ps (upF X.K (mutF g))) (hr : Room k X.A) (hgs : X.A.guards = some []) (hg : Gl X x) (hm : X.mg x = some (.ref f)) (hk : PySem.W.keepIn X.K (.ref f) = true) (hb : Binds X.K fd ps [])
    (ha : WA X (e :: es) n ta) (hdb : (x == ("__debug__" : Str)) = false := by decide) (he : starEach (e :: es) X.env = (false, eval e X.env) :: starEach es X.env := by rfl) (hpl : (backTo pos (starEach es X.env)).any (·.1) = false := by rfl) :
    WE X (.Call (.Name x p) (e :: es) [] pos) (tClM g ta) :=
  ⟨fun c => pe_w (pe_callG F hr hgs hg hm hk hb .nil (ha.pa c) hdb he hpl) fun _ _ _ h => callM_up h⟩
/-- a def that hands back a new list -/
@[reducible] def tClN (f : List PyData → (List PyData → Prop) → Prop) (ta : TAp) : TNp := fun ρ S R => ta ρ S fun pvs S1 => match dsP pvs with
  | some ds => f ds fun xs => R xs S1
  | none => False
theorem callN_up {fn : List PyData → (List PyData → Prop) → Prop} {c : FP} {σ : L2.St} {H : Hp} {Q : VK} (h : upN X.K c (tClN fn ta) σ H Q) : tCall (upF X.K (newF fn)) [] E0 (upA X.K c n ta) σ H Q := by
  obtain ⟨μ, ρ, S, R, f, h, q⟩ := h
  refine ⟨μ, ρ, S, _, f, h, fun pvs S1 h1 hl μ1 vs H1 p1 f1 r1 g1 => ?_⟩
  split at h1
  · rename_i ds e
    obtain ⟨rr, _⟩ := dsP_rep r1 e
    refine ⟨[], dA ds, [], fun pv S' => match pv with
      | .cel i => ∃ xs, cellAt S' i = some (.lst xs) ∧ R xs S1
      | .d _ => False, by rw [List.append_nil]; exact pairedD rr, .nil, .nil, ⟨rfl, ds, _, rfl, h1, fun xs hx i S' e => ⟨xs, e, hx⟩⟩, fun pv S' hR μ' v H' p' rc _ own rp g same => ?_⟩
    · cases pv with
      | d _ => exact hR.elim
      | cel i =>
        obtain ⟨xs, e1, hR⟩ := hR
        obtain ⟨a, ha, rfl⟩ := rp
        rw [cellAt_get] at e1
        obtain ⟨a', ha', us, e3, r3⟩ := paired_get rc e1
        rw [ha] at ha'; cases ha'
        have ha1 : H1 a = none := (own a (List.mem_of_getElem? ha)).elim (fun z => absurd z (by simp)) id
        exact q xs S1 hR μ1 a us H' p1 (f1.same (same_of same)) e3 (f1.notIn ha1) (f1.noH0 ha1) r3 (g1.trans g)
  · exact h1.elim
theorem w_callN {fn : List PyData → (List PyData → Prop) → Prop} (F : FnOkG X.prog X.w X.K X.mg X.base k f fd ps (upF X.K (newF fn))) (hr : Room k X.A) (hgs : X.A.guards = some []) (hg : Gl X x) (hm : X.mg x = some (.ref f)) (hk : PySem.W.keepIn X.K (.ref f) = true) (hb : Binds X.K fd ps [])
    (ha : WA X (e :: es) n ta) (hdb : (x == ("__debug__" : Str)) = false := by decide) (he : starEach (e :: es) X.env = (false, eval e X.env) :: starEach es X.env := by rfl) (hpl : (backTo pos (starEach es X.env)).any (·.1) = false := by rfl) :
    WN X (.Call (.Name x p) (e :: es) [] pos) (tClN fn ta) :=
  ⟨fun c => pe_w (pe_callG F hr hgs hg hm hk hb .nil (ha.pa c) hdb he hpl) fun _ _ _ h => callN_up h⟩
/-- a new list as data: it is locked -/
@[reducible] def tNe (t : TNp) : TEp := fun ρ S R => t ρ S fun xs S1 => R (.d (.list xs)) S1
theorem w_ne {t : TNp} (h : WN X e t) : WE X e (tNe t) := by
  refine ⟨fun c => pe_w (pe_freeze (h.pe c)) fun σ H Q ⟨μ, ρ, S, R, f, h, q⟩ => ?_⟩
  refine ⟨μ, ρ, S, _, f, h, fun xs S1 h1 μ1 p vs H1 p1 f1 hp np no rr g1 => .inr ⟨p, vs, rfl, hp, fun o => ?_⟩⟩
  have g2 : Ge H1 (upd H1 p (.frz o (.lst vs))) := .put hp
  refine q _ S1 h1 μ1 _ _ p1 ⟨paired_imp f1.env fun _ _ z => SlotR.mono g2 (.refl _) z, paired_at f1.cel fun i y a e1 e2 z => ?_, f1.nd, f1.own, fun b ob e nb => ?_⟩ ⟨p, vs, rfl, .inl ⟨o, upd_same⟩, Reps.mono g2 _ _ rr⟩ (g1.trans g2)
  · have na : a ≠ p := fun h => np (h ▸ List.mem_of_getElem? e2)
    exact z.move (fun o e => by rw [upd_ne na]; exact e) g2
  · have nb' : b ≠ p := fun h => by
      subst h
      rcases no with z | z
      · exact nb z
      · rw [z] at e; cases e
    rw [upd_ne nb']; exact f1.keep b ob e nb

/-! ### built-ins -/
abbrev OpA := List PyData → (PyData → Prop) → Prop
def OpaOk (K : PySem.W.Frag) (r : List V → Hp → VK → Prop) (p : OpA) : Prop := ∀ (H : Hp) (ds : List PyData) (vs : List V) (k : PyData → Prop) (Q : VK), Paired (RepR K H) ds vs → p ds k → RetD K H k Q → r vs H Q
@[reducible] def tBi (p : OpA) (ta : TAp) : TEp := fun ρ S R => ta ρ S fun pvs S1 => match dsOf S1 pvs with
  | some ds => p ds fun r => R (.d r) S1
  | none => False
theorem bi_up {r : List V → Hp → VK → Prop} {pr : OpA} (hp : OpaOk X.K r pr) {c : FP} {σ : L2.St} {H : Hp} {Q : VK} (h : up X.K c (tBi pr ta) σ H Q) : tCB r (upA X.K c n ta) σ H (Fz Q) := by
  obtain ⟨μ, ρ, S, R, f, h, q⟩ := h
  refine ⟨μ, ρ, S, _, f, h, fun pvs S1 h1 hl μ1 vs H1 p1 f1 r1 g1 => ?_⟩
  split at h1
  · rename_i ds e1
    exact hp H1 ds vs _ _ (dsOf_rep f1 r1 e1) h1 (retD_of f1 q p1 g1)
  · exact h1.elim
theorem w_callB {id : String} {r : List V → Hp → VK → Prop} {pr : OpA} (hc : CallR X (.builtin id) r) (hp : OpaOk X.K r pr) (hg : Gl X x) (hm : X.mg x = none) (hv : bootBuiltins x = some (.builtin id)) (ha : WA X (e :: es) n ta)
    (hl : ∀ t, PA X (e :: es) t → PE X (.Call (.Name x p) (e :: es) [] pos) (tCB r t)) : WE X (.Call (.Name x p) (e :: es) [] pos) (tBi pr ta) :=
  ⟨fun c => pe_w (pe_freeze (hl _ (ha.pa c))) fun _ _ _ h => bi_up hp h⟩
theorem w_bi {r : List V → Hp → VK → Prop} {pr : OpA} {ce : Expr} (hp : OpaOk X.K r pr) (ha : WA X es n ta) (hl : ∀ t, PA X es t → PE X ce (tCB r t)) : WE X ce (tBi pr ta) :=
  ⟨fun c => pe_w (pe_freeze (hl _ (ha.pa c))) fun _ _ _ h => bi_up hp h⟩
/-- isinstance(e, T), T a built-in class -/
inductive TyN where
  | int | bool | str | tuple | list
def TyN.nm : TyN → String
  | .int => "int"
  | .bool => "bool"
  | .str => "str"
  | .tuple => "tuple"
  | .list => "list"
@[reducible] def isT : TyN → PyData → Bool
  | .int, .int _ => true
  | .int, .bool _ => true
  | .bool, .bool _ => true
  | .str, .str _ => true
  | .tuple, .tuple _ => true
  | .list, .list _ => true
  | _, _ => false
def tyD : PyData → String
  | .none => "NoneType"
  | .bool _ => "bool"
  | .int _ => "int"
  | .str _ => "str"
  | .list _ => "list"
  | .tuple _ => "tuple"
  | .dict _ => "dict"
theorem ty_of {K : PySem.W.Frag} {H : Hp} : ∀ {d : PyData} {v : V}, RepR K H d v → True → TyX K H v (.type (tyD d))
  | .none, v, h, _ => by rw [show v = .non from h]; exact .base (.non)
  | .bool b, v, h, _ => by rw [show v = .bl b from h]; exact .base (.bl b)
  | .int i, v, h, _ => by rw [show v = .int i from h]; exact .base (.int i)
  | .str z, v, h, _ => by rw [show v = .str z from h]; exact .base (.str z)
  | .list xs, _, ⟨a, vs, e, s, _⟩, _ => by
    subst e
    rcases s with s | ⟨o, s⟩ | ⟨its, n, s, _, _⟩
    · exact .base (.lst s)
    · exact .base (.frz s)
    · exact .kList s rfl
  | .tuple xs, _, ⟨a, vs, e, s, _⟩, _ => by
    subst e
    rcases s with (s | ⟨o, s⟩) | ⟨o, its, m, hk, hc, _⟩
    · exact .base (.tup s)
    · exact .fTuple s
    · exact .kTuple hk hc
  | .dict kv, _, ⟨a, ps, e, ⟨o, h⟩, _⟩, _ => by subst e; exact .fDict h
@[reducible] def tIs (T : TyN) (te : TEp) : TEp := fun ρ S R => te ρ S fun x S1 => match vw S1 x with
  | some d => R (.d (.bool (isT T d))) S1
  | none => False
end
end Pu

set_option autoImplicit false
namespace Pu
open PySem PySem.Spec PyProof.Rows L2

/-! ### operators on data, one by one -/
section
variable {X : Cx} {K : PySem.W.Frag}
/-- two ints -/
@[reducible] def dII (C : Int → Int → Prop) (g : Int → Int → PyData) : OpD := fun a b k => match a, b with
  | .int i, .int j => C i j ∧ k (g i j)
  | _, _ => False
@[reducible] def dI0 (g : Int → Int → PyData) : OpD := fun a b k => match a, b with
  | .int i, .int j => k (g i j)
  | _, _ => False
theorem ok_II {C : Int → Int → Prop} {g : Int → Int → PyData} {gv : Int → Int → V} (hg : ∀ i j H, Rep K H (g i j) (gv i j)) : OpdOk K (rI C gv) (dII C g) := by
  intro H a b va vb k Q ra rb h q
  unfold dII at h
  split at h
  · rename_i i j
    exact ⟨i, j, ra, rb, h.1, q.val _ _ H h.2 (hg i j H) (.refl _)⟩
  · exact h.elim
theorem ok_I0 {g : Int → Int → PyData} {gv : Int → Int → V} (hg : ∀ i j H, Rep K H (g i j) (gv i j)) : OpdOk K (rI0 gv) (dI0 g) := by
  intro H a b va vb k Q ra rb h q
  unfold dI0 at h
  split at h
  · rename_i i j
    exact ⟨i, j, ra, rb, q.val _ _ H h (hg i j H) (.refl _)⟩
  · exact h.elim
/-- one of two rules -/
theorem OpdOk.or {r r' : R2} {p p' pp : OpD} (h : OpdOk K r p) (h' : OpdOk K r' p') (e : ∀ a b k, pp a b k → p a b k ∨ p' a b k) : OpdOk K (fun x y H Q => r x y H Q ∨ r' x y H Q) pp := by
  intro H a b va vb k Q ra rb hh q
  rcases e a b k hh with z | z
  · exact .inl (h H a b va vb k Q ra rb z q)
  · exact .inr (h' H a b va vb k Q ra rb z q)
/-- list + list -/
def rCatL (K : PySem.W.Frag) : R2 := fun x y H Q => ∃ l b xs zs, x = .ref l ∧ y = .ref b ∧ RdL K H l xs ∧ RdL K H b zs ∧ xs.length + zs.length ≤ sizeLine ∧ ∀ p, H p = none → Q (.ref p) (upd H p (.lst (xs ++ zs)))
theorem rd_lst {pins : List (Addr × Obj)} {σ : L2.St} {H : Hp} {s : Shared} {a : Addr} {xs : List V} (I : Inv X pins σ H s) (h : RdL X.K H a xs) : ∃ (its : List Value) (n : Nat), Vals xs its ∧ s.heap.get? a = some { cls := .type "list", data := .seq its.toArray n } := by
  rcases h with h | ⟨o, h⟩ | ⟨its, n, h, _, r⟩
  · obtain ⟨_, its, n, r, e⟩ := I.hok a _ h
    exact ⟨its, n, r, e⟩
  · obtain ⟨_, _, its, n, r, e⟩ := I.hok a _ h
    exact ⟨its, n, r, e⟩
  · exact ⟨its, n, r, I.kIn a _ h⟩
theorem op_catL : OpR X (binaryOp .Add) (rCatL X.K) := by
  intro pins s σ H x y v u Q I rx ry h
  obtain ⟨l, b, xs, zs, rfl, rfl, h1, h2, hz, q⟩ := h
  cases rx; cases ry
  obtain ⟨its, n, r, e⟩ := rd_lst I h1
  obtain ⟨its2, n2, r2, e2⟩ := rd_lst I h2
  have l1 := r.length
  have l2 := r2.length
  refine PySem.P.add_list e e2 ?_ (by rw [List.size_toArray, List.size_toArray]; omega)
  rw [show its.toArray ++ its2.toArray = (its ++ its2).toArray by simp]
  exact ⟨.ref _, _, I.lnew (t' := s.toks) (r.append r2) (by rw [List.length_append]; omega), rfl, q _ I.fresh⟩
@[reducible] def dAdd : OpD := fun a b k => match a, b with
  | .int i, .int j => k (.int (i + j))
  | .list xs, .list ys => xs.length + ys.length ≤ sizeLine ∧ k (.list (xs ++ ys))
  | _, _ => False
theorem op_addA : OpR X (binaryOp .Add) (fun x y H Q => rI0 (fun i j => .int (i + j)) x y H Q ∨ rCatL X.K x y H Q) := op_add.or op_catL
theorem ok_add : OpdOk K (fun x y H Q => rI0 (fun i j => .int (i + j)) x y H Q ∨ rCatL K x y H Q) dAdd := by
  intro H a b va vb k Q ra rb h q
  unfold dAdd at h
  split at h
  · rename_i i j
    exact .inl ⟨i, j, ra, rb, q.val _ _ H h rfl (.refl _)⟩
  · rename_i xs ys
    obtain ⟨l, us, rfl, s1, r1⟩ := ra
    obtain ⟨b', ws, rfl, s2, r2⟩ := rb
    exact .inr ⟨l, b', us, ws, rfl, rfl, s1, s2, by rw [← r1.length, ← r2.length]; exact h.1, fun p hp => q.new _ p _ h.2 hp (r1.append r2)⟩
  · exact h.elim
def CMulP (i j : Int) : Prop := i.natAbs.log2 + j.natAbs.log2 < 1000000
def CDivP' (j : Int) : Prop := 0 < j ∧ j.natAbs.log2 < 9000
variable {a b : Expr} {ta tb : TEp} {pos : Pos}
abbrev dSub : OpD := dI0 fun i j => .int (i - j)
abbrev dMul : OpD := dII CMulP fun i j => .int (i * j)
abbrev dFdiv : OpD := dII (fun _ j => 0 < j ∧ j.natAbs.log2 < 9000) fun i j => .int (i / j)
abbrev dMod : OpD := dII (fun _ j => 0 < j) fun i j => .int (i % j)
abbrev dPow : OpD := dII (fun i j => 0 ≤ j ∧ j ≤ 1000000 ∧ i.natAbs < 2 ^ 64) fun i j => .int (i ^ j.toNat)
theorem w_add (ha : WE X a ta) (hb : WE X b tb) : WE X (.BinOp a .Add b pos) (tBin dAdd ta tb) := w_bin op_addA ok_add ha hb
theorem w_sub (ha : WE X a ta) (hb : WE X b tb) : WE X (.BinOp a .Sub b pos) (tBin dSub ta tb) := w_bin op_sub (ok_I0 fun _ _ _ => rfl) ha hb
theorem w_mul (ha : WE X a ta) (hb : WE X b tb) : WE X (.BinOp a .Mult b pos) (tBin dMul ta tb) := w_bin op_mulW (ok_II (C := CMulW) (g := fun i j => .int (i * j)) fun _ _ _ => rfl) ha hb
theorem w_fdiv (ha : WE X a ta) (hb : WE X b tb) : WE X (.BinOp a .FloorDiv b pos) (tBin dFdiv ta tb) := w_bin op_fdivW (ok_II (C := CDivW) (g := fun i j => .int (i / j)) fun _ _ _ => rfl) ha hb
theorem w_mod (ha : WE X a ta) (hb : WE X b tb) : WE X (.BinOp a .Mod b pos) (tBin dMod ta tb) := w_bin op_mod (ok_II fun _ _ _ => rfl) ha hb
theorem w_pow (ha : WE X a ta) (hb : WE X b tb) : WE X (.BinOp a .Pow b pos) (tBin dPow ta tb) := w_bin op_pow (ok_II (C := CPow) (g := fun i j => .int (i ^ j.toNat)) fun _ _ _ => rfl) ha hb
/-- // and % by a divisor of either sign -/
abbrev dFdivS : OpD := dII (fun _ j => j ≠ 0 ∧ j.natAbs.log2 < 9000) fun i j => .int (i.fdiv j)
abbrev dModS : OpD := dII (fun _ j => j ≠ 0) fun i j => .int (i.fmod j)
theorem op_fdivS : OpR X (binaryOp .FloorDiv) (rI (fun _ j => j ≠ 0 ∧ j.natAbs.log2 < 9000) fun i j => .int (i.fdiv j)) := opI fun i j _ _ _ _ _ hc q => floordiv_int hc.1 q (.inl (by
  have h := hc.2
  exact PyProof.noPylong_of_log2 h))
theorem w_modS (ha : WE X a ta) (hb : WE X b tb) : WE X (.BinOp a .Mod b pos) (tBin dModS ta tb) := w_bin op_modN (ok_II (C := fun _ j => j ≠ 0) (g := fun i j => .int (i.fmod j)) fun _ _ _ => rfl) ha hb
@[reducible] def uNeg (a : PyData) (k : PyData → Prop) : Prop := match a with
  | .int i => k (.int (-i))
  | _ => False
theorem w_neg (ha : WE X a ta) : WE X (.UnaryOp .USub a pos) (tUnp uNeg ta) := w_un un_neg (fun H a va k Q ra h q => by
  unfold uNeg at h
  split at h
  · rename_i i
    exact ⟨i, ra, q.val _ _ H h rfl (.refl _)⟩
  · exact h.elim) ha
theorem w_fdivS (ha : WE X a ta) (hb : WE X b tb) : WE X (.BinOp a .FloorDiv b pos) (tBin dFdivS ta tb) := w_bin op_fdivS (ok_II fun _ _ _ => rfl) ha hb
/-! ### comparisons -/
abbrev R2m (r : R2) : Prop := ∀ x y H Q Q', (∀ v H1, Q v H1 → Q' v H1) → r x y H Q → r x y H Q'
theorem m_I0 {g : Int → Int → V} : R2m (rI0 g) := fun _ _ _ _ _ h ⟨i, j, a, b, q⟩ => ⟨i, j, a, b, h _ _ q⟩
abbrev dLt : OpD := dI0 fun i j => .bool (decide (i < j))
abbrev dLe : OpD := dI0 fun i j => .bool (decide (i ≤ j))
abbrev dGt : OpD := dI0 fun i j => .bool (decide (j < i))
abbrev dGe : OpD := dI0 fun i j => .bool (decide (j ≤ i))
theorem w_lt (ha : WE X a ta) (hb : WE X b tb) : WE X (.Compare a [.Lt] [b] pos) (tBin dLt ta tb) := w_cmp op_lt (ok_I0 fun _ _ _ => rfl) ha hb (nomark _)
theorem w_le (ha : WE X a ta) (hb : WE X b tb) : WE X (.Compare a [.LtE] [b] pos) (tBin dLe ta tb) := w_cmp op_le (ok_I0 fun _ _ _ => rfl) ha hb (nomark _)
theorem w_gt (ha : WE X a ta) (hb : WE X b tb) : WE X (.Compare a [.Gt] [b] pos) (tBin dGt ta tb) := w_cmp op_gt (ok_I0 fun _ _ _ => rfl) ha hb (nomark _)
theorem w_ge (ha : WE X a ta) (hb : WE X b tb) : WE X (.Compare a [.GtE] [b] pos) (tBin dGe ta tb) := w_cmp op_ge (ok_I0 fun _ _ _ => rfl) ha hb (nomark _)
theorem wt_lt (ha : WE X a ta) (hb : WE X b tb) : WT X (.Compare a [.Lt] [b] pos) (tTst (tBin dLt ta tb)) := w_tcmp op_lt (ok_I0 fun _ _ _ => rfl) m_I0 ha hb (nomark _)
theorem wt_le (ha : WE X a ta) (hb : WE X b tb) : WT X (.Compare a [.LtE] [b] pos) (tTst (tBin dLe ta tb)) := w_tcmp op_le (ok_I0 fun _ _ _ => rfl) m_I0 ha hb (nomark _)
theorem wt_gt (ha : WE X a ta) (hb : WE X b tb) : WT X (.Compare a [.Gt] [b] pos) (tTst (tBin dGt ta tb)) := w_tcmp op_gt (ok_I0 fun _ _ _ => rfl) m_I0 ha hb (nomark _)
theorem wt_ge (ha : WE X a ta) (hb : WE X b tb) : WT X (.Compare a [.GtE] [b] pos) (tTst (tBin dGe ta tb)) := w_tcmp op_ge (ok_I0 fun _ _ _ => rfl) m_I0 ha hb (nomark _)
mutual
/-- no dict within -/
def noD : PyData → Bool
  | .list xs => noDs xs
  | .tuple xs => noDs xs
  | .dict _ => false
  | _ => true
def noDs : List PyData → Bool
  | [] => true
  | x :: xs => noD x && noDs xs
end
mutual
theorem noD_lay : ∀ {d : PyData}, d.canLay0 = true → noD d = true
  | .none, _ => rfl
  | .bool _, _ => rfl
  | .int _, _ => rfl
  | .str _, _ => rfl
  | .list xs, h => noDs_lay (xs := xs) (by simpa [PyData.canLay0] using h)
  | .tuple xs, h => noDs_lay (xs := xs) (by simpa [PyData.canLay0] using h)
  | .dict _, h => by simp [PyData.canLay0] at h
theorem noDs_lay : ∀ {xs : List PyData}, PyData.canLayAll0 xs = true → noDs xs = true
  | [], _ => rfl
  | x :: xs, h => by
    simp only [PyData.canLayAll0, Bool.and_eq_true] at h
    simp only [noDs, Bool.and_eq_true]
    exact ⟨noD_lay h.1, noDs_lay h.2⟩
end
mutual
theorem dp_of {H : Hp} : ∀ {d : PyData} {v : V}, noD d = true → Rep K H d v → Dp K H v d
  | .none, _, _, h => by rw [show _ = V.non from h]; exact .non
  | .bool b, _, _, h => by rw [show _ = V.bl b from h]; exact .bl b
  | .int i, _, _, h => by rw [show _ = V.int i from h]; exact .int i
  | .str z, _, _, h => by rw [show _ = V.str z from h]; exact .str z
  | .list xs, _, n, ⟨a, vs, e, s, r⟩ => by subst e; exact .lst s.seq (dps_of (ds := xs) n r)
  | .tuple xs, _, n, ⟨a, vs, e, s, r⟩ => by subst e; exact .tup s (dps_of (ds := xs) n r)
  | .dict _, _, n, h => by simp [noD] at n
theorem dps_of {H : Hp} : ∀ {ds : List PyData} {vs : List V}, noDs ds = true → Reps K H ds vs → DpAll K H vs ds
  | [], _, _, h => by rw [show _ = [] from h]; exact .nil
  | x :: xs, _, n, ⟨_, _, e, r, t⟩ => by
    simp only [noDs, Bool.and_eq_true] at n
    subst e; exact .cons (dp_of n.1 r) (dps_of n.2 t)
end
theorem dp_ofR {H : Hp} : ∀ {d : PyData} {v : V}, noD d = true → RepR K H d v → Dp K H v d
  | .list xs, _, n, ⟨a, vs, e, s, r⟩ => by subst e; exact .lst s.seq (dps_of (ds := xs) n r)
  | .none, _, n, h => dp_of (d := .none) n h
  | .bool b, _, n, h => dp_of (d := .bool b) n h
  | .int i, _, n, h => dp_of (d := .int i) n h
  | .str z, _, n, h => dp_of (d := .str z) n h
  | .tuple xs, _, n, h => dp_of (d := .tuple xs) n h
  | .dict _, _, n, h => dp_of (d := .dict _) n h
/-- == -/
@[reducible] def dEq : OpD := fun a b k => match a, b with
  | .int i, .int j => k (.bool (decide (i = j)))
  | .str i, .str j => k (.bool (decide (i = j)))
  | .bool i, .bool j => k (.bool (decide (i = j)))
  | a, b => (SeqAt.shaped a = true ∧ SeqAt.shaped b = true) ∧ k (.bool (PyData.eqv a b))
@[reducible] def dNe : OpD := fun a b k => match a, b with
  | .int i, .int j => k (.bool (bnot (decide (i = j))))
  | .str i, .str j => k (.bool (bnot (decide (i = j))))
  | .bool i, .bool j => k (.bool (bnot (decide (i = j))))
  | a, b => (SeqAt.shaped a = true ∧ SeqAt.shaped b = true) ∧ k (.bool (bnot (PyData.eqv a b)))
abbrev rEqA (K : PySem.W.Frag) : R2 := fun x y H Q => rEq x y H Q ∨ rEqD K x y H Q
abbrev rNeA (K : PySem.W.Frag) : R2 := fun x y H Q => rNe x y H Q ∨ rNeD K x y H Q
theorem m_eq : R2m (rEqA K) := fun _ _ _ _ _ h z => z.imp (fun ⟨a, q⟩ => ⟨a, h _ _ q⟩) fun ⟨d, e, a1, a2, a3, a4, q⟩ => ⟨d, e, a1, a2, a3, a4, h _ _ q⟩
theorem m_ne : R2m (rNeA K) := fun _ _ _ _ _ h z => z.imp (fun ⟨a, q⟩ => ⟨a, h _ _ q⟩) fun ⟨d, e, a1, a2, a3, a4, q⟩ => ⟨d, e, a1, a2, a3, a4, h _ _ q⟩
theorem decV_int {i j : Int} : decide (V.int i = V.int j) = decide (i = j) := by by_cases h : i = j <;> simp [h]
theorem decV_str {i j : Str} : decide (V.str i = V.str j) = decide (i = j) := by by_cases h : i = j <;> simp [h]
theorem decV_bl {i j : Bool} : decide (V.bl i = V.bl j) = decide (i = j) := by by_cases h : i = j <;> simp [h]
theorem ok_eq : OpdOk K (rEqA K) dEq := by
  intro H a b va vb k Q ra rb h q
  unfold dEq at h
  split at h
  · rename_i i j
    rw [show va = V.int i from ra, show vb = V.int j from rb]
    exact .inl ⟨rfl, by rw [decV_int]; exact q.val _ _ H h rfl (.refl _)⟩
  · rename_i i j
    rw [show va = V.str i from ra, show vb = V.str j from rb]
    exact .inl ⟨rfl, by rw [decV_str]; exact q.val _ _ H h rfl (.refl _)⟩
  · rename_i i j
    rw [show va = V.bl i from ra, show vb = V.bl j from rb]
    exact .inl ⟨rfl, by rw [decV_bl]; exact q.val _ _ H h rfl (.refl _)⟩
  · exact .inr ⟨_, _, dp_ofR (noD_lay (SeqAt.canLay_of_shaped h.1.1)) ra, dp_ofR (noD_lay (SeqAt.canLay_of_shaped h.1.2)) rb, h.1.1, h.1.2, q.val _ _ H h.2 rfl (.refl _)⟩
theorem ok_ne : OpdOk K (rNeA K) dNe := by
  intro H a b va vb k Q ra rb h q
  unfold dNe at h
  simp only [bnot_eq] at h
  split at h
  · rename_i i j
    rw [show va = V.int i from ra, show vb = V.int j from rb]
    exact .inl ⟨rfl, by rw [decV_int]; exact q.val _ _ H h rfl (.refl _)⟩
  · rename_i i j
    rw [show va = V.str i from ra, show vb = V.str j from rb]
    exact .inl ⟨rfl, by rw [decV_str]; exact q.val _ _ H h rfl (.refl _)⟩
  · rename_i i j
    rw [show va = V.bl i from ra, show vb = V.bl j from rb]
    exact .inl ⟨rfl, by rw [decV_bl]; exact q.val _ _ H h rfl (.refl _)⟩
  · exact .inr ⟨_, _, dp_ofR (noD_lay (SeqAt.canLay_of_shaped h.1.1)) ra, dp_ofR (noD_lay (SeqAt.canLay_of_shaped h.1.2)) rb, h.1.1, h.1.2, q.val _ _ H h.2 rfl (.refl _)⟩
variable {k : Nat}
theorem w_eq (hr : Room k X.A) (ha : WE X a ta) (hb : WE X b tb) : WE X (.Compare a [.Eq] [b] pos) (tBin dEq ta tb) := w_cmp (op_eq.or (op_eqD hr.units)) ok_eq ha hb (nomark _)
theorem w_ne' (hr : Room k X.A) (ha : WE X a ta) (hb : WE X b tb) : WE X (.Compare a [.NotEq] [b] pos) (tBin dNe ta tb) := w_cmp (op_ne.or (op_neD hr.units)) ok_ne ha hb (nomark _)
theorem wt_eq (hr : Room k X.A) (ha : WE X a ta) (hb : WE X b tb) : WT X (.Compare a [.Eq] [b] pos) (tTst (tBin dEq ta tb)) := w_tcmp (op_eq.or (op_eqD hr.units)) ok_eq m_eq ha hb (nomark _)
theorem wt_ne (hr : Room k X.A) (ha : WE X a ta) (hb : WE X b tb) : WT X (.Compare a [.NotEq] [b] pos) (tTst (tBin dNe ta tb)) := w_tcmp (op_ne.or (op_neD hr.units)) ok_ne m_ne ha hb (nomark _)
@[reducible] def isNone : PyData → Bool
  | .none => true
  | _ => false
theorem none_of {H : Hp} : ∀ {d : PyData} {v : V}, RepR K H d v → decide (v = .non) = isNone d
  | .none, _, h => by rw [show _ = V.non from h]; rfl
  | .bool b, _, h => by rw [show _ = V.bl b from h]; rfl
  | .int i, _, h => by rw [show _ = V.int i from h]; rfl
  | .str z, _, h => by rw [show _ = V.str z from h]; rfl
  | .list xs, _, ⟨a, vs, e, s, r⟩ => by subst e; rfl
  | .tuple xs, _, ⟨a, vs, e, s, r⟩ => by subst e; rfl
  | .dict _, _, ⟨a, ps, e, _⟩ => by subst e; rfl
@[reducible] def dIs (f : Bool → Bool) : OpD := fun a b k => match b with
  | .none => k (.bool (f (isNone a)))
  | _ => False
theorem ok_isN : OpdOk K (fun x y H Q => y = .non ∧ Q (.bl (decide (x = .non))) H) (dIs id) := by
  intro H a b va vb k Q ra rb h q
  unfold dIs at h
  split at h
  · exact ⟨rb, by rw [none_of ra]; exact q.val _ _ H h rfl (.refl _)⟩
  · exact h.elim
theorem ok_notN : OpdOk K (fun x y H Q => y = .non ∧ Q (.bl (!decide (x = .non))) H) (dIs bnot) := by
  intro H a b va vb k Q ra rb h q
  unfold dIs at h
  simp only [bnot_eq] at h
  split at h
  · exact ⟨rb, by rw [none_of ra]; exact q.val _ _ H h rfl (.refl _)⟩
  · exact h.elim
theorem m_is {g : V → V} : R2m (fun x y H Q => y = .non ∧ Q (g x) H) := fun _ _ _ _ _ h ⟨a, q⟩ => ⟨a, h _ _ q⟩
theorem w_isN (ha : WE X a ta) (hb : WE X b tb) : WE X (.Compare a [.Is] [b] pos) (tBin (dIs id) ta tb) := w_cmp op_isN ok_isN ha hb (nomark _)
theorem w_notN (ha : WE X a ta) (hb : WE X b tb) : WE X (.Compare a [.IsNot] [b] pos) (tBin (dIs bnot) ta tb) := w_cmp op_notN ok_notN ha hb (nomark _)
theorem wt_isN (ha : WE X a ta) (hb : WE X b tb) : WT X (.Compare a [.Is] [b] pos) (tTst (tBin (dIs id) ta tb)) := w_tcmp op_isN ok_isN (m_is (g := fun x => .bl (decide (x = .non)))) ha hb (nomark _)
theorem wt_notN (ha : WE X a ta) (hb : WE X b tb) : WT X (.Compare a [.IsNot] [b] pos) (tTst (tBin (dIs bnot) ta tb)) := w_tcmp op_notN ok_notN (m_is (g := fun x => .bl (!decide (x = .non)))) ha hb (nomark _)
/-- a < b < c -/
@[reducible] def tCh (p p' : OpD) (ta tb tc : TEp) : TEp := fun ρ S R => ta ρ S fun x S1 => tb ρ S1 fun y S2 => match vw S2 x, vw S2 y with
  | some a, some b => p a b fun z => match z with
    | .bool k => Br k (tc ρ S2 fun w S3 => match vw S3 y, vw S3 w with
        | some b', some c => p' b' c fun r => R (.d r) S3
        | _, _ => False) (R (.d (.bool false)) S2)
    | _ => False
  | _, _ => False
theorem chain_up {e : Expr} {tc : TEp} {r r' : R2} {pp pp' : OpD} (hp : OpdOk X.K r pp) (hp' : OpdOk X.K r' pp') {c : FP} {σ : L2.St} {H : Hp} {Q : VK} (h : up X.K c (tCh pp pp' ta tb tc) σ H Q) (hr : R2m r) : tChain r r' (up X.K c ta) (up X.K c tb) (up X.K c tc) σ H (Fz Q) := by
  obtain ⟨μ, ρ, S, R, f, h, q⟩ := h
  refine ⟨μ, ρ, S, _, f, h, fun x S1 h1 μ1 v1 H1 p1 f1 r1 g1 => ⟨μ1, ρ, S1, _, f1, h1, fun y S2 h2 μ2 v2 H2 p2 f2 r2 g2 => ?_⟩⟩
  split at h2
  · rename_i d e e1 e2
    have base := hp H2 d e v1 v2 _ (fun z H3 => ∃ w, Rep X.K H3 w z ∧ Same H2 H3 ∧ (match w with
      | .bool k => Br k (tc ρ S2 fun w S3 => match vw S3 y, vw S3 w with
          | some b', some c => pp' b' c fun r => R (.d r) S3
          | _, _ => False) (R (.d (.bool false)) S2)
      | _ => False)) (vw_rep f2 (r1.mono g2 p2) e1) (vw_rep f2 r2 e2) h2 ⟨fun r v H' hk rep same => ⟨r, rep, same, hk⟩, fun xs p vs hk hn reps => hk.elim⟩
    refine hr _ _ _ _ _ (fun z H3 ⟨w, rw', same, hk⟩ => ?_) base
    split at hk
    · rename_i kk
      refine ⟨kk, rw', ?_⟩
      cases kk with
      | true =>
        refine iteT ⟨μ2, ρ, S2, _, f2.same same, hk, fun w S3 h3 μ3 v3 H4 p3 f3 r3 g3 => ?_⟩
        split at h3
        · rename_i b' c' e3 e4
          exact hp' H4 b' c' v2 v3 _ _ (vw_rep f3 (r2.mono ((Ge.of_same same).trans g3) p3) e3) (vw_rep f3 r3 e4) h3 (retD_of f3 q (p1.trans (p2.trans p3)) (g1.trans (g2.trans ((Ge.of_same same).trans g3))))
        · exact h3.elim
      | false => exact iteF (.inl (q (.d (.bool false)) S2 hk μ2 _ H3 (p1.trans p2) (f2.same same) rfl (g1.trans (g2.trans (.of_same same)))))
    · exact hk.elim
  · exact h2.elim
theorem w_chain {e : Expr} {tc : TEp} {op op' : CmpOp} {r r' : R2} {pp pp' : OpD} (hp : OpdOk X.K r pp) (hp' : OpdOk X.K r' pp') (hr : R2m r) (ha : WE X a ta) (hb : WE X b tb) (hc : WE X e tc)
    (hl : ∀ t1 t2 t3, PE X a t1 → PE X b t2 → PE X e t3 → PE X (.Compare a [op, op'] [b, e] pos) (tChain r r' t1 t2 t3)) : WE X (.Compare a [op, op'] [b, e] pos) (tCh pp pp' ta tb tc) :=
  ⟨fun c => pe_w (pe_freeze (hl _ _ _ (ha.pe c) (hb.pe c) (hc.pe c))) fun _ _ _ h => chain_up (e := e) hp hp' h hr⟩
end
end Pu

set_option autoImplicit false
namespace Pu
open PySem PySem.Spec PyProof.Rows L2

/-! ### items, lengths, kinds -/
@[reducible] def nthD : List PyData → Nat → Option PyData
  | [], _ => none
  | x :: _, 0 => some x
  | _ :: r, i + 1 => nthD r i
theorem nthD_eq : ∀ (xs : List PyData) (i : Nat), nthD xs i = xs[i]?
  | [], _ => by simp [nthD]
  | _ :: _, 0 => by simp [nthD]
  | _ :: r, i + 1 => by simpa [nthD] using nthD_eq r i
@[reducible] def revD : List PyData → List PyData → List PyData
  | [], acc => acc
  | x :: r, acc => revD r (x :: acc)
theorem revD_eq : ∀ xs acc : List PyData, revD xs acc = xs.reverse ++ acc
  | [], _ => rfl
  | x :: r, acc => by rw [revD, revD_eq r]; simp
@[reducible] def ixD (xs : List PyData) : Int → Option PyData
  | .ofNat n => nthD xs n
  | .negSucc n => nthD (revD xs []) n
theorem ixD_at {α : Type} {F : PyData → α → Prop} {xs : List PyData} {vs : List α} (hl : xs.length = vs.length) {i : Int} {d : PyData} (h : ixD xs i = some d) (hg : ∀ (j : Nat) d, xs[j]? = some d → ∃ v, vs[j]? = some v ∧ F d v) : ∃ v, atI vs i = some v ∧ F d v := by
  cases i with
  | ofNat n =>
    simp only [ixD, nthD_eq] at h
    obtain ⟨v, h1, h2⟩ := hg n d h
    exact ⟨v, atI_nat h1, h2⟩
  | negSucc n =>
    simp only [ixD, nthD_eq, revD_eq, List.append_nil] at h
    have hn : n < xs.length := by
      have := (List.getElem?_eq_some_iff.mp h).1
      rwa [List.length_reverse] at this
    rw [List.getElem?_reverse hn] at h
    obtain ⟨v, h1, h2⟩ := hg _ d h
    refine ⟨v, ?_, h2⟩
    unfold atI ixN
    rw [if_neg (by omega), if_pos (by omega)]
    simp only [Option.bind_some]
    rw [← h1]; congr 1; omega
theorem ixD_nn {xs : List PyData} {i : Int} (h : 0 ≤ i) : ixD xs i = xs[i.toNat]? := by
  cases i with
  | ofNat n => simp only [ixD, nthD_eq]; rfl
  | negSucc n => omega
section
variable {X : Cx} {K : PySem.W.Frag} {a b e : Expr} {ta tb te : TEp} {pos : Pos} {k n : Nat} {x : Str} {p : Pos} {es : List Expr} {t : TAp}
@[reducible] def dIx : OpD := fun a b k => match a, b with
  | .list xs, .int i => match ixD xs i with
    | some d => k d
    | none => False
  | .tuple xs, .int i => match ixD xs i with
    | some d => k d
    | none => False
  | _, _ => False
theorem ok_ix : OpdOk K (rIx K) dIx := by
  intro H a b va vb k Q ra rb h q
  unfold dIx at h
  split at h
  · rename_i xs i
    obtain ⟨l, us, rfl, s, r⟩ := ra
    split at h
    · rename_i d e
      obtain ⟨v, h1, h2⟩ := ixD_at r.length e fun j d hj => r.get hj
      exact .inl ⟨l, us, i, v, rfl, rb, s.seq, h1, q.val _ _ H h h2 (.refl _)⟩
    · exact h.elim
  · rename_i xs i
    obtain ⟨l, us, rfl, s, r⟩ := ra
    split at h
    · rename_i d e
      obtain ⟨v, h1, h2⟩ := ixD_at r.length e fun j d hj => r.get hj
      exact .inr (.inl ⟨l, us, i, v, rfl, rb, s, h1, q.val _ _ H h h2 (.refl _)⟩)
    · exact h.elim
  · exact h.elim
theorem w_ix (ha : WE X a ta) (hb : WE X b tb) (hs : PlainIx b) : WE X (.Subscript a b pos) (tBin dIx ta tb) :=
  ⟨fun c => pe_w (pe_freeze (pe_ix ix_seq (ha.pe c) (hb.pe c) hs)) fun _ _ _ h => bin_up ok_ix h⟩
/-- an item at a place that is reckoned -/
@[irreducible] def onS (o : Option PyData) (k : PyData → Prop) : Prop := ∃ d, o = some d ∧ k d
theorem ix_ok {o : Option PyData} {d : PyData} {k : PyData → Prop} (h : o = some d) (hk : k d) : onS o k := by
  unfold onS; exact ⟨d, h, hk⟩
@[reducible] def dIxJ : OpD := fun a b k => match a, b with
  | .list xs, .int i => onS (ixD xs i) k
  | .tuple xs, .int i => onS (ixD xs i) k
  | _, _ => False
theorem ix_any {xs : List PyData} {i : Int} {k : PyData → Prop} (h0 : 0 ≤ i) (h1 : i < xs.length) (hk : ∀ d ∈ xs, k d) : onS (ixD xs i) k := by
  have hl : i.toNat < xs.length := by omega
  exact ix_ok (by rw [ixD_nn h0, List.getElem?_eq_getElem hl]) (hk _ (List.getElem_mem hl))
theorem ok_ixJ : OpdOk K (rIx K) dIxJ := by
  intro H a b va vb k Q ra rb h q
  refine ok_ix H a b va vb k Q ra rb ?_ q
  unfold dIxJ at h
  split at h
  · unfold onS at h
    obtain ⟨d, e, hk⟩ := h
    simp only [dIx]
    rw [e]; exact hk
  · unfold onS at h
    obtain ⟨d, e, hk⟩ := h
    simp only [dIx]
    rw [e]; exact hk
  · exact h.elim
theorem w_ixJ (ha : WE X a ta) (hb : WE X b tb) (hs : PlainIx b) : WE X (.Subscript a b pos) (tBin dIxJ ta tb) :=
  ⟨fun c => pe_w (pe_freeze (pe_ix ix_seq (ha.pe c) (hb.pe c) hs)) fun _ _ _ h => bin_up ok_ixJ h⟩
/-- len -/
@[reducible] def aLen : OpA := fun ds k => match ds with
  | [.list xs] => k (.int xs.length)
  | [.tuple xs] => k (.int xs.length)
  | [.str z] => z.length ≤ sizeLine ∧ k (.int z.length)
  | _ => False
theorem ok_len : OpaOk K (fun xs H Q => (∃ p ys, xs = [.ref p] ∧ (SqL K H p ys ∨ SqT K H p ys) ∧ Q (.int ys.length) H) ∨ (∃ z, xs = [.str z] ∧ z.length ≤ sizeLine ∧ Q (.int z.length) H)) aLen := by
  intro H ds vs k Q r h q
  unfold aLen at h
  split at h
  · rename_i xs
    cases r with
    | cons r t =>
      cases t
      obtain ⟨l, us, rfl, s, rr⟩ := r
      exact .inl ⟨l, us, rfl, .inl s.seq, by rw [← rr.length]; exact q.val _ _ H h rfl (.refl _)⟩
  · rename_i xs
    cases r with
    | cons r t =>
      cases t
      obtain ⟨l, us, rfl, s, rr⟩ := r
      exact .inl ⟨l, us, rfl, .inr s, by rw [← rr.length]; exact q.val _ _ H h rfl (.refl _)⟩
  · rename_i z
    cases r with
    | cons r t =>
      cases t
      exact .inr ⟨z, by rw [show _ = V.str z from r], h.1, q.val _ _ H h.2 rfl (.refl _)⟩
  · exact h.elim
theorem w_len (hg : Gl X "len") (hm : X.mg "len" = none) (ha : WA X [e] n t) (hl : ∀ r t, CallR X (.builtin "len") r → PA X [e] t → PE X (.Call (.Name "len" p) [e] [] pos) (tCB r t)) : WE X (.Call (.Name "len" p) [e] [] pos) (tBi aLen t) :=
  w_bi ok_len ha fun t h => hl _ t (call_len_seq.or call_len_str) h
/-- abs, min, max of ints -/
@[reducible] def aAbs : OpA := fun ds k => match ds with
  | [.int i] => k (.int (if i < 0 then -i else i))
  | _ => False
@[reducible] def aMax2 : OpA := fun ds k => match ds with
  | [.int i, .int j] => k (.int (if j > i then j else i))
  | _ => False
@[reducible] def aMin2 : OpA := fun ds k => match ds with
  | [.int i, .int j] => k (.int (if j < i then j else i))
  | _ => False
@[reducible] def aInt : OpA := fun ds k => match ds with
  | [.int i] => k (.int i)
  | [.bool b] => k (.int (if b = true then 1 else 0))
  | _ => False
theorem ok_abs : OpaOk K (fun xs H Q => ∃ i, xs = [.int i] ∧ Q (.int (if i < 0 then -i else i)) H) aAbs := by
  intro H ds vs k Q r h q
  unfold aAbs at h
  split at h
  · rename_i i
    cases r with
    | cons r t =>
      cases t
      exact ⟨i, by rw [show _ = V.int i from r], q.val _ _ H h rfl (.refl _)⟩
  · exact h.elim
theorem ok_max2 : OpaOk K (fun xs H Q => ∃ i j, xs = [.int i, .int j] ∧ Q (.int (if j > i then j else i)) H) aMax2 := by
  intro H ds vs k Q r h q
  unfold aMax2 at h
  split at h
  · rename_i i j
    cases r with
    | cons r t =>
      cases t with
      | cons r' t =>
        cases t
        exact ⟨i, j, by rw [show _ = V.int i from r, show _ = V.int j from r'], q.val _ _ H h rfl (.refl _)⟩
  · exact h.elim
theorem ok_min2 : OpaOk K (fun xs H Q => ∃ i j, xs = [.int i, .int j] ∧ Q (.int (if j < i then j else i)) H) aMin2 := by
  intro H ds vs k Q r h q
  unfold aMin2 at h
  split at h
  · rename_i i j
    cases r with
    | cons r t =>
      cases t with
      | cons r' t =>
        cases t
        exact ⟨i, j, by rw [show _ = V.int i from r, show _ = V.int j from r'], q.val _ _ H h rfl (.refl _)⟩
  · exact h.elim
theorem ok_int : OpaOk K (fun xs H Q => (∃ i, xs = [.int i] ∧ Q (.int i) H) ∨ ∃ k, xs = [.bl k] ∧ Q (.int (if k then 1 else 0)) H) aInt := by
  intro H ds vs k Q r h q
  unfold aInt at h
  split at h
  · rename_i i
    cases r with
    | cons r t =>
      cases t
      exact .inl ⟨i, by rw [show _ = V.int i from r], q.val _ _ H h rfl (.refl _)⟩
  · rename_i b
    cases r with
    | cons r t =>
      cases t
      exact .inr ⟨b, by rw [show _ = V.bl b from r], q.val _ _ H h rfl (.refl _)⟩
  · exact h.elim
/-- lists of bools, of ints -/
@[reducible] def boolsD : List PyData → Option (List Bool)
  | [] => some []
  | .bool b :: r => match boolsD r with
    | some bs => some (b :: bs)
    | none => none
  | _ => none
@[reducible] def intsD : List PyData → Option (List Int)
  | [] => some []
  | .int b :: r => match intsD r with
    | some bs => some (b :: bs)
    | none => none
  | _ => none
theorem boolsD_eq : ∀ {xs : List PyData} {bs : List Bool}, boolsD xs = some bs → xs = bs.map PyData.bool
  | [], bs, h => by simp only [boolsD, Option.some.injEq] at h; subst h; rfl
  | .bool b :: r, bs, h => by
    simp only [boolsD] at h
    split at h
    · rename_i cs e
      cases h
      rw [boolsD_eq e]; rfl
    · cases h
  | .none :: _, _, h => by simp [boolsD] at h
  | .int _ :: _, _, h => by simp [boolsD] at h
  | .str _ :: _, _, h => by simp [boolsD] at h
  | .list _ :: _, _, h => by simp [boolsD] at h
  | .tuple _ :: _, _, h => by simp [boolsD] at h
  | .dict _ :: _, _, h => by simp [boolsD] at h
theorem boolsD_map : ∀ bs : List Bool, boolsD (bs.map PyData.bool) = some bs
  | [] => rfl
  | b :: r => by simp only [List.map_cons, boolsD, boolsD_map r]
theorem intsD_eq : ∀ {xs : List PyData} {bs : List Int}, intsD xs = some bs → xs = bs.map PyData.int
  | [], bs, h => by simp only [intsD, Option.some.injEq] at h; subst h; rfl
  | .int b :: r, bs, h => by
    simp only [intsD] at h
    split at h
    · rename_i cs e
      cases h
      rw [intsD_eq e]; rfl
    · cases h
  | .none :: _, _, h => by simp [intsD] at h
  | .bool _ :: _, _, h => by simp [intsD] at h
  | .str _ :: _, _, h => by simp [intsD] at h
  | .list _ :: _, _, h => by simp [intsD] at h
  | .tuple _ :: _, _, h => by simp [intsD] at h
  | .dict _ :: _, _, h => by simp [intsD] at h
theorem intsD_map : ∀ bs : List Int, intsD (bs.map PyData.int) = some bs
  | [] => rfl
  | b :: r => by simp only [List.map_cons, intsD, intsD_map r]
@[reducible] def allB : List Bool → Bool
  | [] => true
  | b :: r => match b with
    | true => allB r
    | false => false
@[reducible] def anyB : List Bool → Bool
  | [] => false
  | b :: r => match b with
    | true => true
    | false => anyB r
theorem allB_eq : ∀ bs : List Bool, allB bs = bs.all id
  | [] => rfl
  | true :: r => by rw [allB, allB_eq r]; rfl
  | false :: r => rfl
theorem anyB_eq : ∀ bs : List Bool, anyB bs = bs.any id
  | [] => rfl
  | true :: r => rfl
  | false :: r => by rw [anyB, anyB_eq r]; rfl
@[reducible] def mapD (f : PyData → PyData) : List PyData → List PyData
  | [] => []
  | x :: r => f x :: mapD f r
theorem mapD_eq (f : PyData → PyData) : ∀ xs : List PyData, mapD f xs = xs.map f
  | [] => rfl
  | x :: r => by rw [mapD, mapD_eq f r]; rfl
@[reducible] def aAll : OpA := fun ds k => match ds with
  | [.list xs] => match boolsD xs with
    | some bs => k (.bool (allB bs))
    | none => False
  | _ => False
@[reducible] def aAny : OpA := fun ds k => match ds with
  | [.list xs] => match boolsD xs with
    | some bs => k (.bool (anyB bs))
    | none => False
  | _ => False
@[reducible] def aSum : OpA := fun ds k => match ds with
  | [.list xs] => match intsD xs with
    | some bs => k (.int bs.sum)
    | none => False
  | _ => False
theorem ok_all : OpaOk K (rAll K) aAll := by
  intro H ds vs k Q r h q
  unfold aAll at h
  simp only [allB_eq] at h
  split at h
  · rename_i xs
    split at h
    · rename_i bs e
      cases r with
      | cons r t =>
        cases t
        obtain ⟨l, us, rfl, s, rr⟩ := r
        rw [boolsD_eq e] at rr
        rw [Reps.bools rr] at s
        exact ⟨l, bs, rfl, s.seq, q.val _ _ H h rfl (.refl _)⟩
    · exact h.elim
  · exact h.elim
theorem ok_any : OpaOk K (rAny K) aAny := by
  intro H ds vs k Q r h q
  unfold aAny at h
  simp only [anyB_eq] at h
  split at h
  · rename_i xs
    split at h
    · rename_i bs e
      cases r with
      | cons r t =>
        cases t
        obtain ⟨l, us, rfl, s, rr⟩ := r
        rw [boolsD_eq e] at rr
        rw [Reps.bools rr] at s
        exact ⟨l, bs, rfl, s.seq, q.val _ _ H h rfl (.refl _)⟩
    · exact h.elim
  · exact h.elim
theorem ok_sum : OpaOk K (rSum K) aSum := by
  intro H ds vs k Q r h q
  unfold aSum at h
  split at h
  · rename_i xs
    split at h
    · rename_i bs e
      cases r with
      | cons r t =>
        cases t
        obtain ⟨l, us, rfl, s, rr⟩ := r
        rw [intsD_eq e] at rr
        rw [Reps.ints rr] at s
        exact ⟨l, bs, rfl, s.seq, q.val _ _ H h rfl (.refl _)⟩
    · exact h.elim
  · exact h.elim
/-- isinstance(e, T) -/
def noDict : PyData → Bool
  | .dict _ => false
  | _ => true
theorem isT_kit : ∀ (T : TyN) (d : PyData), True → kitB (tyD d) T.nm = some (isT T d) := by
  intro T d nd
  cases T <;> cases d <;> first | decide +kernel | rfl
theorem w_isi (Tn : TyN) {T : Str} {p2 : Pos} (hg : Gl X "isinstance") (hm : X.mg "isinstance" = none) (hT : Gl X T) (hmT : X.mg T = none) (hvT : bootBuiltins T = some (.type Tn.nm))
    (ha : WE X e te) (hl : ∀ t, PE X e t → PE X (.Call (.Name "isinstance" p) [e, .Name T p2] [] pos) (tCB (rIsi X.K) (tCons t (tCons (tC (.ty Tn.nm)) tNil)))) : WE X (.Call (.Name "isinstance" p) [e, .Name T p2] [] pos) (tIs Tn te) := by
  refine ⟨fun c => pe_w (hl _ (ha.pe c)) fun σ H Q ⟨μ, ρ, S, R, f, h, q⟩ => ?_⟩
  refine ⟨μ, ρ, S, _, f, h, fun x S1 h1 μ1 v1 H1 p1 f1 r1 g1 => ?_⟩
  split at h1
  · rename_i d e1
    have rr := vw_rep f1 r1 e1
    have nd : True := trivial
    exact ⟨v1, .ty Tn.nm, .type (tyD d), .type Tn.nm, isT Tn d, rfl, .ty Tn.nm, ty_of rr nd, kit_ty (isT_kit Tn d nd), q (.d (.bool (isT Tn d))) S1 h1 μ1 (.bl (isT Tn d)) H1 p1 f1 rfl g1⟩
  · exact h1.elim

/-! ### list comprehensions -/
@[reducible] def sndsR : List (Str × Nat) → List Nat
  | [] => []
  | p :: r => p.2 :: sndsR r
theorem sndsR_eq : ∀ own : List (Str × Nat), sndsR own = own.map (·.2)
  | [] => rfl
  | p :: r => by rw [sndsR, sndsR_eq r]; rfl
@[reducible] def wipeP (ρ : Rho) : List Nat → Rho
  | [] => ρ
  | v :: vs => setR (wipeP ρ vs) v none
theorem wipe_slots {K : PySem.W.Frag} {H : Hp} {μ : List Addr} {ρ : Rho} {σ : L2.St} (h : Paired (SlotR K H μ) ρ σ) : ∀ vs : List Nat, Paired (SlotR K H μ) (wipeP ρ vs) (wipe σ vs)
  | [] => h
  | v :: vs => by
    rw [wipeP, setR_eq]
    exact paired_set (F := SlotR K H μ) (x := none) (y := none) trivial v (wipe_slots h vs)
theorem wipe_get (σ : L2.St) : ∀ (vs : List Nat) (i : Nat), (wipe σ vs)[i]? = if i ∈ vs then (σ[i]?).map (fun _ => none) else σ[i]?
  | [], i => by simp [wipe]
  | v :: vs, i => by
    unfold wipe
    rw [List.getElem?_set, wipe_get σ vs i, wipe_length]
    by_cases h : v = i
    · subst h
      rw [if_pos rfl]
      by_cases hl : v < σ.length
      · rw [if_pos hl, if_pos (by simp), List.getElem?_eq_getElem hl]; rfl
      · rw [if_neg hl, if_pos (by simp), List.getElem?_eq_none (by omega)]; rfl
    · rw [if_neg h]
      by_cases hm : i ∈ vs
      · rw [if_pos hm, if_pos (by simp [hm])]
      · rw [if_neg hm, if_neg (by simp only [List.mem_cons, not_or]; exact ⟨fun e => h e.symm, hm⟩)]
theorem wipe_off {σ σ' : L2.St} {ws vs : List Nat} (h : Off ws (wipe σ vs) σ') (hs : ∀ i ∈ ws, i ∈ vs) : wipe σ' vs = wipe σ vs := by
  have h1 : σ'.length = σ.length := by rw [h.1, wipe_length]
  refine List.ext_getElem? fun i => ?_
  rw [wipe_get, wipe_get]
  by_cases hm : i ∈ vs
  · rw [if_pos hm, if_pos hm]
    by_cases hl : i < σ.length
    · rw [List.getElem?_eq_getElem hl, List.getElem?_eq_getElem (by omega)]; rfl
    · rw [List.getElem?_eq_none (by omega), List.getElem?_eq_none (by omega)]
  · rw [if_neg hm, if_neg hm, h.2 i fun z => hm (hs i z), wipe_get, if_neg hm]
/-- any frame -/
def upE (K : PySem.W.Frag) (t : TEp) : TE := fun σ H Q => ∃ c, up K c t σ H Q
def upTE (K : PySem.W.Frag) (t : TTp) : TT := fun σ H Q => ∃ c, upT K c t σ H Q
def upGE (K : PySem.W.Frag) (ws : List Nat) (g : TGp) : TG := fun v σ H Q => ∃ c, upG K c ws g v σ H Q
@[reducible] def tYesP : TTp := fun _ S R => R true S
structure WTs (X : Cx) (ifs : List Expr) (t : TTp) : Prop where
  pt : ∀ c, PTs X ifs (upT X.K c t)
theorem wts_nil : WTs X [] tYesP := ⟨fun c => ⟨fun pins s σ H Q I ⟨μ, ρ, S, R, f, h, q⟩ => pts_nil.run pins s σ H Q I (q true S h μ H (.refl _) f (.refl _))⟩⟩
theorem wts_one {c : Expr} {t : TTp} (h : WT X c t) : WTs X [c] t := ⟨fun fp => pts_one (h.pt fp)⟩
theorem PE.anyF {t : TEp} (h : WE X e t) : PE X e (upE X.K t) := ⟨fun pins s σ H Q I ⟨c, q⟩ => (h.pe c).run pins s σ H Q I q⟩
theorem PTs.anyF {ifs : List Expr} {t : TTp} (h : WTs X ifs t) : PTs X ifs (upTE X.K t) := ⟨fun pins s σ H Q I ⟨c, q⟩ => (h.pt c).run pins s σ H Q I q⟩
theorem PG.anyF {tg : Expr} {ws : List Nat} {g : TGp} (h : WG X tg ws g) : PG X tg (upGE X.K ws g) := ⟨fun pins s σ H v u Q I r ⟨c, q⟩ => (h.pg c).run pins s σ H v u Q I r q⟩
/-- the turns of a comprehension over these items -/
def LcB (g : TGp) (tt : TTp) (te : TEp) (vs : List Nat) (ρ : Rho) (R : List PyData → Sto → Prop) (items : List PyData) (S1 : Sto) : Prop := items.length ≤ sizeLine ∧ ∃ I : Nat → List PyData → Sto → Prop, I 0 [] S1 ∧
  (∀ i d acc S, items[i]? = some d → I i acc S → g d (wipeP ρ vs) fun ρ2 => tt ρ2 S fun b S2 => Br b (te ρ2 S2 fun y S3 => match y with
    | .d y => I (i + 1) (acc ++ [y]) S3
    | .cel _ => False) (I (i + 1) acc S2)) ∧ ∀ acc S, I items.length acc S → R acc S
@[reducible] def tLC (ti : TIp) (g : TGp) (tt : TTp) (te : TEp) (vs : List Nat) : TNp := fun ρ S R => ti ρ S fun items S1 => LcB g tt te vs ρ R items S1
/-- each element is told by a function of its item -/
theorem lcb_map {g : TGp} {te : TEp} {vs : List Nat} {ρ : Rho} {R : List PyData → Sto → Prop} {items : List PyData} {S : Sto} (f : PyData → PyData) (hz : items.length ≤ sizeLine)
    (h : ∀ d ∈ items, ∀ k : PQ, k (.d (f d)) S → g d (wipeP ρ vs) fun ρ2 => te ρ2 S k) (hR : R (mapD f items) S) : LcB g tYesP te vs ρ R items S := by
  refine ⟨hz, fun i acc S' => acc = (items.take i).map f ∧ S' = S, ⟨rfl, rfl⟩, ?_, ?_⟩
  · rintro i d _ _ hd ⟨rfl, rfl⟩
    refine h d (List.mem_of_getElem? hd) _ ⟨?_, rfl⟩
    rw [List.take_add_one, hd]; simp
  · rintro _ _ ⟨rfl, rfl⟩
    rw [List.take_length, ← mapD_eq]; exact hR
/-- .. and kept where a function of the item says so -/
theorem lcb_filter {g : TGp} {tt : TTp} {te : TEp} {vs : List Nat} {ρ : Rho} {R : List PyData → Sto → Prop} {items : List PyData} {S : Sto} (p : PyData → Bool) (f : PyData → PyData) (hz : items.length ≤ sizeLine)
    (h : ∀ d ∈ items, ∀ (k : PQ) (k0 : Sto → Prop), (p d = true → k (.d (f d)) S) → (p d = false → k0 S) → g d (wipeP ρ vs) fun ρ2 => tt ρ2 S fun b S2 => Br b (te ρ2 S2 k) (k0 S2)) (hR : R ((items.filter p).map f) S) : LcB g tt te vs ρ R items S := by
  refine ⟨hz, fun i acc S' => acc = ((items.take i).filter p).map f ∧ S' = S, ⟨rfl, rfl⟩, ?_, ?_⟩
  · rintro i d _ _ hd ⟨rfl, rfl⟩
    refine h d (List.mem_of_getElem? hd) _ (fun S2 => _) (fun hp => ⟨?_, rfl⟩) (fun hp => ⟨?_, rfl⟩)
    · rw [List.take_add_one, hd]; simp [hp]
    · rw [List.take_add_one, hd]; simp [hp]
  · rintro _ _ ⟨rfl, rfl⟩
    rw [List.take_length]; exact hR
theorem lc_up {tg iter : Expr} {ti : TIp} {ws : List Nat} {g : TGp} {tt : TTp} {te : TEp} {vs : List Nat} {c : FP} {wi : TI} {σ : L2.St} {H : Hp} {Q : VK}
    (hw : ∀ μ ρ S σ H R (Q : It → Hp → Prop), Fr X.K c μ ρ S σ H → ti ρ S R → (∀ items S1, R items S1 → ∀ μ1 H1 J, Pre μ μ1 → Fr X.K c μ1 ρ S1 σ H1 → Ge H H1 → ItIs X.K J items H1 → Q J H1) → wi σ H Q)
    (hv : ∀ i ∈ ws, i ∈ vs) (h : upN X.K c (tLC ti g tt te vs) σ H Q) : tLc wi (upGE X.K ws g) (upTE X.K tt) (upE X.K te) vs σ H Q := by
  obtain ⟨μ, ρ, S, R, f, h, q⟩ := h
  refine hw μ ρ S σ H _ _ f h fun items S1 ⟨hz, I, i0, step, done⟩ μ1 H1 J p1 f1 g1 it D hD => ?_
  refine ⟨fun i m H' => m = items.length - i ∧ i ≤ items.length ∧ ∃ μ' S' acc us, Pre μ1 μ' ∧ Ge H1 H' ∧ Fr X.K c μ' ρ S' σ H' ∧ H' D = some (.lst us) ∧ D ∉ μ' ∧ (c.F0 D ∨ c.H0 D = none) ∧ Reps X.K H' acc us ∧ acc.length ≤ i ∧ I i acc S',
    ⟨items.length, by simp, Nat.zero_le _, μ1, S1, [], [], .refl _, .new hD, f1.same (same_new hD), upd_same, f1.notIn hD, f1.noH0 hD, rfl, Nat.zero_le _, i0⟩, ?_⟩
  rintro i m H' ⟨rfl, hle, μ', S', acc, us, p', g', f', hDu, nD, oD, rr, hl, ii⟩
  by_cases hlt : i < items.length
  · refine .inr ⟨it.go H' g' i hlt, fun H2 => ∃ μ2 S2 acc2 us2, Pre μ1 μ2 ∧ Ge H1 H2 ∧ Fr X.K c μ2 ρ S2 σ H2 ∧ H2 D = some (.lst us2) ∧ D ∉ μ2 ∧ (c.F0 D ∨ c.H0 D = none) ∧ Reps X.K H2 acc2 us2 ∧ acc2.length ≤ i + 1 ∧ I (i + 1) acc2 S2,
      fun H2 hx => ⟨items.length - (i + 1), by omega, rfl, hlt, hx⟩, fun x H2 y => ?_⟩
    have hd : items[i]? = some items[i] := by simp [hlt]
    obtain ⟨rx, same⟩ := it.yld H' g' i _ hd x H2 y
    have f2 := f'.same same
    have f2w : Fr X.K c μ' (wipeP ρ vs) S' (wipe σ vs) H2 := f2.slots (wipe_slots f2.env vs)
    have fs := f2w.sub
    refine ⟨_, μ', wipeP ρ vs, S', _, _, fs, rx, step i _ acc S' hd ii, fun ρ3 h3 σ3 f3 off => ⟨wipe_off off hv, _, μ', ρ3, S', _, f3, h3, fun b S4 h4 μ4 H4 p4 f4 g4 => ?_⟩⟩
    have keepD : ∀ {H5 : Hp} {μ5 ρ5 S5 σ5}, Fr X.K ⟨H2, fun a => a ∈ μ'⟩ μ5 ρ5 S5 σ5 H5 → H5 D = some (.lst us) ∧ D ∉ μ5 := fun {H5 μ5 ρ5 S5 σ5} f5 => by
      have e : H2 D = some (.lst us) := same _ _ hDu
      refine ⟨f5.keep D _ e nD, fun hm => ?_⟩
      rcases f5.own D hm with z | z
      · exact nD z
      · have z' : H2 D = none := z
        rw [e] at z'; cases z'
    cases b with
    | false =>
      have h4' : I (i + 1) acc S4 := h4
      obtain ⟨k1, k2⟩ := keepD f4
      have f5 : Fr X.K c μ4 ρ S4 σ H4 := (f2w.back f4).slots (paired_imp f2.env fun _ _ z => SlotR.mono g4 p4 z)
      exact iteF ⟨μ4, S4, acc, us, p'.trans p4, g'.trans ((Ge.of_same same).trans g4), f5, k1, k2, oD, Reps.mono ((Ge.of_same same).trans g4) _ _ rr, by omega, h4'⟩
    | true =>
      refine iteT ⟨_, μ4, ρ3, S4, _, f4, h4, fun y S5 h5 μ5 v5 H5 p5 f5 r5 g5 => ?_⟩
      cases y with
      | cel _ => exact h5.elim
      | d y =>
        obtain ⟨k1, k2⟩ := keepD f5
        have gg : Ge H' H5 := (Ge.of_same same).trans (g4.trans g5)
        have r6 : Reps X.K H5 acc us := Reps.mono gg _ _ rr
        have f6 : Fr X.K c μ5 ρ S5 σ H5 := (f2w.back f5).slots (paired_imp f2.env fun _ _ z => SlotR.mono (g4.trans g5) (p4.trans p5) z)
        have g6 : Ge H5 (upd H5 D (.lst (us ++ [v5]))) := .put k1
        refine ⟨us, k1, ?_, μ5, S5, acc ++ [y], us ++ [v5], p'.trans (p4.trans p5), g'.trans (gg.trans g6), ?_, upd_same, k2, oD, Reps.mono g6 _ _ (r6.append (.one r5)), by rw [List.length_append]; simp; omega, h5⟩
        · rw [← r6.length]; omega
        · refine ⟨paired_imp f6.env fun _ _ z => SlotR.mono g6 (.refl _) z, paired_at f6.cel fun j z a e1 e2 cr => ?_, f6.nd, f6.own, fun b ob e nb => ?_⟩
          · have na : a ≠ D := fun h => k2 (h ▸ List.mem_of_getElem? e2)
            exact cr.move (fun o e => by rw [upd_ne na]; exact e) g6
          · have nb' : b ≠ D := fun h => by
              subst h
              rcases oD with z | z
              · exact nb z
              · rw [z] at e; cases e
            rw [upd_ne nb']; exact f6.keep b ob e nb
  · have e : i = items.length := by omega
    subst e
    exact .inl ⟨it.stop H' g', q acc S' (done acc S' ii) μ' D us H' (p1.trans p') f' hDu nD oD rr (g1.trans g')⟩
theorem wn_lc {elt tg iter : Expr} {ifs : List Expr} {scope : Scope} {own : List (Str × Nat)} {ti : TIp} {ws : List Nat} {g : TGp} {tt : TTp} {te : TEp} (hc : X.calm = true) (hN : X.N.Nodup) (hi : WI X tg iter ti) (ok : BlkOk X.N X.env.scope scope own) (hv : ∀ i ∈ ws, i ∈ own.map (·.2))
    (hg : ∀ (s : Shared) (H : Hp) (C : Addr) (cl : List (Str × Addr)) (fp : List Addr), WG (X.blk s H scope (compEnvC scope cl C X.env) fp) tg ws g) (ht : ∀ (s : Shared) (H : Hp) (C : Addr) (cl : List (Str × Addr)) (fp : List Addr), WTs (X.blk s H scope (compEnvC scope cl C X.env) fp) ifs tt)
    (he : ∀ (s : Shared) (H : Hp) (C : Addr) (cl : List (Str × Addr)) (fp : List Addr), WE (X.blk s H scope (compEnvC scope cl C X.env) fp) elt te) (hs : ∀ x, foldedSetIterable iter X.env x = pure x := by intro _; rfl) :
    WN X (.ListComp elt [⟨tg, iter, ifs, 0⟩] scope pos) (tLC ti g tt te (sndsR own)) := by
  rw [sndsR_eq]
  refine ⟨fun c => ?_⟩
  obtain ⟨wi, hpi, hw⟩ := hi.ex c
  exact pe_w (pe_lc (wi := wi) (g := upGE X.K ws g) (tt := upTE X.K tt) (te := upE X.K te) hc hN hpi ok (fun s H C cl fp => PG.anyF (hg s H C cl fp)) (fun s H C cl fp => PTs.anyF (ht s H C cl fp)) (fun s H C cl fp => PE.anyF (he s H C cl fp)) hs) fun σ H Q h => lc_up (tg := tg) (iter := iter) hw hv h
/-- name = [..] on one line -/
theorem ws_setLC {i : Nat} {y : Str} {py spos : Pos} {elt tg iter : Expr} {ifs : List Expr} {scope : Scope} {own : List (Str × Nat)} {ti : TIp} {ws : List Nat} {g : TGp} {tt : TTp} {te : TEp} (hc : X.calm = true) (hN : X.N.Nodup) (hy : X.N[i]? = some y) (hyl : X.env.scope.names.lookup y = some .local)
    (hsw : swapsWith (.ListComp elt [⟨tg, iter, ifs, 0⟩] scope pos) (some (.Name y py)) spos.line X.env = pure true) (hi : WI X tg iter ti) (ok : BlkOk X.N X.env.scope scope own) (hv : ∀ i ∈ ws, i ∈ own.map (·.2))
    (hg : ∀ (s : Shared) (H : Hp) (C : Addr) (cl : List (Str × Addr)) (fp : List Addr), WG (X.blk s H scope (compEnvC scope cl C X.env) fp) tg ws g) (ht : ∀ (s : Shared) (H : Hp) (C : Addr) (cl : List (Str × Addr)) (fp : List Addr), WTs (X.blk s H scope (compEnvC scope cl C X.env) fp) ifs tt)
    (he : ∀ (s : Shared) (H : Hp) (C : Addr) (cl : List (Str × Addr)) (fp : List Addr), WE (X.blk s H scope (compEnvC scope cl C X.env) fp) elt te) (hs : ∀ x, foldedSetIterable iter X.env x = pure x := by intro _; rfl) :
    WS X (.Assign [.Name y py] (.ListComp elt [⟨tg, iter, ifs, 0⟩] scope pos) spos) (tStN i (tLC ti g tt te (sndsR own))) := by
  rw [sndsR_eq]
  refine ⟨fun c => ?_⟩
  obtain ⟨wi, hpi, hw⟩ := hi.ex c
  exact ps_w (ps_setLc (wi := wi) (g := upGE X.K ws g) (tt := upTE X.K tt) (te := upE X.K te) hc hN hy hyl hsw hpi ok (fun s H C cl fp => PG.anyF (hg s H C cl fp)) (fun s H C cl fp => PTs.anyF (ht s H C cl fp)) (fun s H C cl fp => PE.anyF (he s H C cl fp)) hs) fun D σ H ⟨μ, ρ, S, E, f, h, q⟩ => lc_up (tg := tg) (iter := iter) hw hv (stN_up f h q)
end
end Pu

set_option autoImplicit false
namespace Pu
open PySem PySem.Spec PyProof.Rows L2

/-! ### the law itself: called once, by the claim's caller -/
/-- nothing but the script, locked, is tracked (or nothing) -/
def Lone (a : Addr) (ob : Obj) (xs : List V) (H : Hp) : Prop := ∀ b u, H b = some u → b = a ∧ u = .frz ob (.lst xs)
def LawOk (P : Program) (w : World) (K : PySem.W.Frag) (mg : Str → Option Value) (base : Heap) (f : Addr) (fd : FuncData) : Prop :=
  ∀ (s : Shared) (H : Hp) (a : Addr) (ns : List Int), ns.length ≤ 63 → Env0 P w K mg base callerA [] s H → BindsTo s fd ⟨[.ref a], []⟩ [("script", .ref a)] → SqF K H a (ns.map V.int) →
    codeAny (model P w) callerA (.call (.ref f) ⟨[.ref a], []⟩) (CR CX0 [] P w H s (fun v _ => v = .bl true) E0) s
section
variable {P : Program} {w : World} {K : PySem.W.Frag} {mg : Str → Option Value} {base : Heap}
/-- the body of the law keeps it -/
theorem okLaw {st : Stmt} {f : Addr} {fd : FuncData} {N : List Str} {k n : Nat} {t : TSp} (F : Fun K "law" "law" st f fd) (Sc : FnScope N ["script"] (defScope st)) (hn : N.length = n) (room : Room (k + 1) callerA)
    (hw : ∀ (cdv : Value) (s : Shared) (H : Hp), Room k (callerA.deeper (envOfC "law" (defScope st) s.heap.objs.size f cdv)) → (callerA.deeper (envOfC "law" (defScope st) s.heap.objs.size f cdv)).guards = some [] →
      WSs (cxOf CX0 P w K mg base N "law" (defScope st) f cdv callerA [] s H E0).nox (defBody st) t)
    (hb : ∀ ns : List Int, ns.length ≤ 63 → t { nx := fun _ _ => False, rt := fun pv _ => pv = .d (.bool true) } (startP n [.d (.list (ns.map PyData.int))]) []) : LawOk P w K mg base f fd := by
  intro s H a ns hlen ev bind hS
  obtain ⟨oc, od, kV, doc, pm, an, cdv, ct, osl, rfl, lk, hcd⟩ := F.ex
  have inK : K.In s.heap := ev.mod.kin.keeps fun b o e => (ev.bs b o e).1
  have lim : s.heap.NoLimit := ev.mod.nolimit.keeps fun b o e => (ev.bs b o e).1
  have one : ∀ y ∈ (["script"] : List Str).zip [Value.ref a], (defScope st).names.lookup y.1 = some .local ∨ ((defScope st).names.lookup y.1 = some .cell ∧ ((cellsFrom (s.heap.objs.size + 1) (defScope st).names []).lookup y.1).isSome = true) := by
    rintro ⟨x, v⟩ hy
    exact (Sc.par x (List.of_mem_zip hy).1).imp id fun q => ⟨q, PySem.W.cellsFrom_some _ _ _ (.inl q)⟩
  refine codeAny_call_function room.depth (inK _ _ lk) rfl Sc.co Sc.gen rfl (PySem.W.codeRec_of inK hcd) (bind _ _ _ _ ?_)
  refine wpAny_newFunctionEnv_cells Sc.kind one fun env he s1 x => ?_
  subst he
  refine ⟨lim.keeps x.toInCall.keep, codeAny_func ?_⟩
  have body := PSs.nox ((hw cdv s H (room.deeper _) rfl).ps ⟨H, fun _ => False⟩)
  have I : Inv (cxOf CX0 P w K mg base N "law" (defScope st) f cdv callerA [] s H E0) [] (L2.start N [V.ref a]) H s1 := inv_start Sc room.hd ev rfl (.cons rfl .nil) x
  have rs : Rep K H (.list (ns.map PyData.int)) (.ref a) := ⟨a, _, rfl, hS, Reps.of_ints⟩
  have fr : Fr K ⟨H, fun _ => False⟩ [] (startP n [.d (.list (ns.map PyData.int))]) [] (L2.start N [V.ref a]) H := by
    refine ⟨?_, .nil, .nil, fun b hb => absurd hb (by simp), fun b o e _ => e⟩
    have z := start_slots (K := K) (H := H) (μ := []) (args := [.d (.list (ns.map PyData.int))]) (vs := [V.ref a]) (.cons rs .nil) (n - 1)
    have hle : 1 ≤ n := by
      rw [← hn]
      have := congrArg List.length Sc.pre
      rw [List.length_take] at this
      have e : (["script"] : List Str).length = 1 := rfl
      omega
    rw [startP_eq n [.d (.list (ns.map PyData.int))] hle]
    unfold L2.start
    rw [hn]
    exact z
  refine wpAny_mono (body.run [] s1 _ H { nx := fun _ _ => False, rt := fun v _ => v = .bl true } I ⟨[], _, [], _, fr, hb ns hlen, ?_⟩) (fun fl s' hs => ?_) fun e s' hs => hs
  · exact ⟨fun _ _ z => z.elim, fun pv S' z _ _ _ v _ _ _ rp _ => by subst z; exact rp, fun _ _ z => z.elim, fun _ _ z => z.elim⟩
  · cases fl with
    | ret u =>
      obtain ⟨v, σ', H', J, rv, q⟩ := hs
      exact ⟨v, H', J.os, J.bare, J.base, J.hok, rv, q⟩
    | next => obtain ⟨_, _, _, q⟩ := hs; exact False.elim q
    | brk => obtain ⟨_, _, _, q⟩ := hs; exact False.elim q
    | cont => obtain ⟨_, _, _, q⟩ := hs; exact False.elim q
/-- from the law's promise to its run behind the top -/
theorem law_run {mb : Str → Option Value} {fa a : Addr} {fd : FuncData} {s : Shared} {vs : List Value} {ns : List Int} (inK : K.In s.heap) (hns : s.heap.Ns mainGlobals mg) (hbn : s.heap.Ns builtinsNs mb)
    (hbb : ∀ x : Str, x ≠ "__name__" → mb x = bootBuiltins x) (hlim : s.heap.NoLimit) (hg : s.gens = #[]) (ha : s.heap.get? a = some { cls := .type "list", data := .seq vs.toArray }) (hi : IntsAre vs ns) (hl : ns.length ≤ 63)
    (F : ∀ base : Heap, K.In base → base.Ns mainGlobals mg → LawOk P w K mg base fa fd) (hbind : ∀ (s : Shared) (u : Value), BindsTo s fd ⟨[u], []⟩ [("script", u)]) :
    codeAny (model P w) callerA (.call (.ref fa) ⟨[.ref a], []⟩) (fun r s' => r = .ok (.ret (.bool true)) ∧ OldK s.heap s'.heap ∧ s'.os = s.os ∧ AllBare s'.gens) s := by
  have rv : Vals (ns.map V.int) vs := vals_of_ints hi
  have lv : vs.length = ns.length := by have := rv.length; simpa using this.symm
  have lz : ns.length ≤ sizeLine := Nat.le_trans hl (by decide)
  -- the claim, from a way to track the script
  have main : ∀ H : Hp, Lone a { cls := .type "list", data := .seq vs.toArray } (ns.map V.int) H → (H a ≠ none → K.lookup a = none) → SqF K H a (ns.map V.int) →
      codeAny (model P w) callerA (.call (.ref fa) ⟨[.ref a], []⟩) (fun r s' => r = .ok (.ret (.bool true)) ∧ OldK s.heap s'.heap ∧ s'.os = s.os ∧ AllBare s'.gens) s := by
    intro H lone hka hS
    have hok : HOk P w H s.heap := fun b u e => by
      obtain ⟨rfl, rfl⟩ := lone b u e
      exact ⟨ha, by rw [List.length_map]; exact lz, vs, _, rv, ha⟩
    have free : ∀ {b : Addr}, (H b ≠ none → False) → H b = none := fun {b} z => by
      cases q : H b with
      | none => rfl
      | some u => exact (z (by rw [q]; simp)).elim
    have kH : K.In (hidT s.heap H) := fun b o e => by
      refine hidT_get (inK b o e) (free fun z => ?_)
      obtain ⟨u, hu⟩ := Option.ne_none_iff_exists'.mp z
      obtain ⟨rfl, _⟩ := lone b u hu
      rw [hka z] at e; cases e
    have nsH : ∀ {b : Addr} {m : Str → Option Value}, s.heap.Ns b m → (hidT s.heap H).Ns b m := fun {b m} q => by
      obtain ⟨o, es, ep, e, d, r⟩ := q
      refine ⟨o, es, ep, hidT_get e (free fun z => ?_), d, r⟩
      obtain ⟨u, hu⟩ := Option.ne_none_iff_exists'.mp z
      obtain ⟨rfl, _⟩ := lone b u hu
      rw [ha] at e; cases e; cases d
    have md : Mod K mg (hidT s.heap H) := by
      obtain ⟨mc, h1, h2⟩ := hlim
      exact ⟨kH, nsH hns, ⟨mb, nsH hbn, hbb⟩, ⟨mc, nsH h1, h2⟩⟩
    have ev : Env0 P w K mg (hidT s.heap H) callerA [] s H := ⟨rfl, md, fun b o e => of_hidT e, Nat.le_of_eq (hidT_size _ _), trivial, fun b hb => absurd (show b ∈ ([] : List Addr) from hb) (by simp), hok, .of_eq hg⟩
    refine codeAny_mono (F _ kH (nsH hns) s H a ns hl ev (hbind s (.ref a)) hS) fun r s' h => ?_
    match r, h with
    | .error e, h => exact False.elim h
    | .ok .next, h => exact False.elim h
    | .ok .brk, h => exact False.elim h
    | .ok .cont, h => exact False.elim h
    | .ok (.ret u), h =>
      obtain ⟨v, H', os, bare, un, hok', r', q⟩ := h
      have q' : v = .bl true := q
      subst q'
      obtain rfl : u = Value.bool true := r'
      refine ⟨rfl, OldK.of_keep fun b o e => ?_, os, bare⟩
      cases hb : H b with
      | none => exact un.keep b o e hb (by intro z; exact absurd (show b ∈ ([] : List Addr) from z) (by simp)) (by simp)
      | some u =>
        obtain ⟨rfl, rfl⟩ := lone b u hb
        have l2 := un.frzs b _ _ hb
        obtain ⟨e2, _⟩ := hok' b _ l2
        rw [ha] at e; cases e
        exact e2
  cases hk : K.lookup a with
  | some o =>
    have e := inK a o hk
    rw [ha] at e; cases e
    exact main (fun _ => none) (fun b u e => by have e' : (none : Option HO) = some u := e; cases e') (fun z => absurd rfl z) (.inr ⟨vs, _, hk, by rw [lv]; exact lz, rv⟩)
  | none =>
    refine main (fun b => if b = a then some (.frz { cls := .type "list", data := .seq vs.toArray } (.lst (ns.map V.int))) else none) (fun b u e => ?_) (fun _ => hk) (.inl ⟨_, if_pos rfl⟩)
    by_cases hb : b = a
    · exact ⟨hb, by have e' := (if_pos hb).symm.trans e; cases e'; rfl⟩
    · have e' := (if_neg hb).symm.trans e
      cases e'
theorem walk_law {l : PySem.W.OpenLaw} {n : Nat} {q : Program} {loose : List Str} {XP : (Str → Option Value) → Heap → Prop} {YP : World → Heap → Prop} {d : DefRec} {K : Params → PySem.W.Frag}
    (hn : l.most = some n) (hn2 : n ≤ 63) (hdf : d.params.defaults = []) (hY : ∀ (w : World) (h : Heap), YP w h → (K w.params).In h)
    (F : ∀ (w : World) (mg : Str → Option Value) (fa : Addr) (h : Heap), (K w.params).In h → h.Ns mainGlobals mg → mg d.name = some (.ref fa) →
      ∃ fd : FuncData, (∀ (s : Shared) (u : Value), BindsTo s fd ⟨[u], []⟩ [("script", u)]) ∧ ∀ base : Heap, (K w.params).In base → base.Ns mainGlobals mg → LawOk l.prog w (K w.params) mg base fa fd) :
    PySem.W.WalkO q loose XP YP l.row.toRowW d [] (fun f vs => PySem.call f vs) := by
  refine Att.attach_call hn hdf fun w s0 s1 mg mb fa o pm cd doc a vs ns G Y ho hd hcd hmg hobj hints hlen hg => ?_
  have inK := hY w _ Y
  obtain ⟨fd, hb, hF⟩ := F w mg fa _ inK G.T.g hmg
  exact law_run inK G.T.g G.T.b G.T.builtins G.T.nolimit hg hobj hints (Nat.le_trans hlen hn2) hF hb
end
end Pu

set_option autoImplicit false
namespace Pu
open PySem PySem.Spec PyProof.Rows L2

/-! ### a new list is locked where it is stored -/
theorem Fr.lockNew {K : PySem.W.Frag} {c : FP} {μ : List Addr} {ρ : Rho} {S : Sto} {σ : L2.St} {H : Hp} {p : Addr} {vs : List V} (f : Fr K c μ ρ S σ H) (hp : H p = some (.lst vs)) (np : p ∉ μ) (no : c.F0 p ∨ c.H0 p = none) (o : Obj) :
    Fr K c μ ρ S σ (upd H p (.frz o (.lst vs))) ∧ Ge H (upd H p (.frz o (.lst vs))) := by
  have g : Ge H (upd H p (.frz o (.lst vs))) := .put hp
  refine ⟨⟨paired_imp f.env fun _ _ z => SlotR.mono g (.refl _) z, paired_at f.cel fun i y a e1 e2 z => ?_, f.nd, f.own, fun b ob e nb => ?_⟩, g⟩
  · have na : a ≠ p := fun h => np (h ▸ List.mem_of_getElem? e2)
    exact z.move (fun o e => by rw [upd_ne na]; exact e) g
  · have nb' : b ≠ p := fun h => by
      subst h
      rcases no with z | z
      · exact nb z
      · rw [z] at e; cases e
    rw [upd_ne nb']; exact f.keep b ob e nb
section
variable {X : Cx} {K : PySem.W.Frag} {a b e : Expr} {ta tb te : TEp} {pos : Pos} {k n : Nat} {x : Str} {p : Pos} {es : List Expr} {t : TAp}
theorem ps_lock {st : Stmt} {t : TS} (h : PS X st t) : PS X st (fun D σ H => t { D with nx := fun σ' H' => D.nx σ' H' ∨ ∃ a vs, H' a = some (.lst vs) ∧ ∀ o, D.nx σ' (upd H' a (.frz o (.lst vs))) } σ H) := by
  refine ⟨fun pins s σ H D I q => thn (h.run pins s σ H _ I q) fun fl s1 z => ?_⟩
  cases fl with
  | next =>
    obtain ⟨σ', H', I', z⟩ := z
    rcases z with z | ⟨a, vs, ha, z⟩
    · exact ⟨σ', H', I', z⟩
    · obtain ⟨o, I2⟩ := Inv.lock I' ha
      exact ⟨σ', _, I2, z o⟩
  | ret v => exact z
  | brk => exact z
  | cont => exact z
@[reducible] def tStF (i : Nat) (te : TNp) : TSp := fun E ρ S => te ρ S fun xs S1 => E.nx (setR ρ i (some (.d (.list xs)))) S1
theorem stF_up {i : Nat} {c : FP} {μ : List Addr} {ρ : Rho} {S : Sto} {E : EndsP} {σ : L2.St} {H : Hp} {D : Ends} {te : TNp} (f : Fr X.K c μ ρ S σ H) (h : tStF i te E ρ S) (q : RetS X.K c E μ H D) :
    upN X.K c te σ H (fun v H1 => D.nx (σ.set i (some v)) H1 ∨ ∃ a vs, H1 a = some (.lst vs) ∧ ∀ o, D.nx (σ.set i (some v)) (upd H1 a (.frz o (.lst vs)))) := by
  refine ⟨μ, ρ, S, _, f, h, fun xs S1 h1 μ1 p vs H1 p1 f1 hp np no rr g1 => .inr ⟨p, vs, hp, fun o => ?_⟩⟩
  obtain ⟨f2, g2⟩ := f1.lockNew hp np no o
  exact q.nx _ S1 h1 μ1 _ _ p1 (f2.set (x := .d (.list xs)) ⟨p, vs, rfl, .inl ⟨o, upd_same⟩, Reps.mono g2 _ _ rr⟩) (g1.trans g2)
theorem ws_setLCf {i : Nat} {y : Str} {py spos : Pos} {elt tg iter : Expr} {ifs : List Expr} {scope : Scope} {own : List (Str × Nat)} {ti : TIp} {ws : List Nat} {g : TGp} {tt : TTp} {te : TEp} (hc : X.calm = true) (hN : X.N.Nodup) (hy : X.N[i]? = some y) (hyl : X.env.scope.names.lookup y = some .local)
    (hsw : swapsWith (.ListComp elt [⟨tg, iter, ifs, 0⟩] scope pos) (some (.Name y py)) spos.line X.env = pure true) (hi : WI X tg iter ti) (ok : BlkOk X.N X.env.scope scope own) (hv : ∀ i ∈ ws, i ∈ own.map (·.2))
    (hg : ∀ (s : Shared) (H : Hp) (C : Addr) (cl : List (Str × Addr)) (fp : List Addr), WG (X.blk s H scope (compEnvC scope cl C X.env) fp) tg ws g) (ht : ∀ (s : Shared) (H : Hp) (C : Addr) (cl : List (Str × Addr)) (fp : List Addr), WTs (X.blk s H scope (compEnvC scope cl C X.env) fp) ifs tt)
    (he : ∀ (s : Shared) (H : Hp) (C : Addr) (cl : List (Str × Addr)) (fp : List Addr), WE (X.blk s H scope (compEnvC scope cl C X.env) fp) elt te) (hs : ∀ x, foldedSetIterable iter X.env x = pure x := by intro _; rfl) :
    WS X (.Assign [.Name y py] (.ListComp elt [⟨tg, iter, ifs, 0⟩] scope pos) spos) (tStF i (tLC ti g tt te (sndsR own))) := by
  rw [sndsR_eq]
  refine ⟨fun c => ?_⟩
  obtain ⟨wi, hpi, hw⟩ := hi.ex c
  exact ps_w (ps_lock (ps_setLc (wi := wi) (g := upGE X.K ws g) (tt := upTE X.K tt) (te := upE X.K te) hc hN hy hyl hsw hpi ok (fun s H C cl fp => PG.anyF (hg s H C cl fp)) (fun s H C cl fp => PTs.anyF (ht s H C cl fp)) (fun s H C cl fp => PE.anyF (he s H C cl fp)) hs)) fun D σ H ⟨μ, ρ, S, E, f, h, q⟩ => lc_up (tg := tg) (iter := iter) hw hv (stF_up f h q)

/-! ### augmented assignments -/
abbrev R2n (r : R2) : Prop := ∀ x y H Q Q', (∀ v H1, (∀ a, v ≠ .ref a) → Q v H1 → Q' v H1) → r x y H Q → r x y H Q'
theorem n_I0 {g : Int → Int → Int} : R2n (rI0 fun i j => .int (g i j)) := fun _ _ _ _ _ h ⟨i, j, a, b, q⟩ => ⟨i, j, a, b, h _ _ (fun _ z => nomatch z) q⟩
theorem n_I {C : Int → Int → Prop} {g : Int → Int → Int} : R2n (rI C fun i j => .int (g i j)) := fun _ _ _ _ _ h ⟨i, j, a, b, c, q⟩ => ⟨i, j, a, b, c, h _ _ (fun _ z => nomatch z) q⟩
theorem iop_mulW : OpR X (inplaceOp .Mult) (rI CMulW fun i j => .int (i * j)) := opI fun _ _ _ _ _ _ _ hc q => imul_int q hc.ok
abbrev dAddI : OpD := dI0 fun i j => .int (i + j)
theorem ws_augAdd {i : Nat} {x : Str} {pos' : Pos} (hN : X.N.Nodup) (hi : X.N[i]? = some x) (hx : Loc X.env.scope x) (he : WE X e te) (hf : X.fn x = true ∨ X.env.scope.names.lookup x = some .local := by first | exact .inl rfl | exact .inr rfl | assumption) : WS X (.AugAssign (.Name x pos') .Add e pos) (tAu i dAddI te) :=
  ws_aug hN hi hx he iop_add (ok_I0 fun _ _ _ => rfl) n_I0 hf
theorem ws_augSub {i : Nat} {x : Str} {pos' : Pos} (hN : X.N.Nodup) (hi : X.N[i]? = some x) (hx : Loc X.env.scope x) (he : WE X e te) (hf : X.fn x = true ∨ X.env.scope.names.lookup x = some .local := by first | exact .inl rfl | exact .inr rfl | assumption) : WS X (.AugAssign (.Name x pos') .Sub e pos) (tAu i dSub te) :=
  ws_aug hN hi hx he iop_sub (ok_I0 fun _ _ _ => rfl) n_I0 hf
theorem ws_augMul {i : Nat} {x : Str} {pos' : Pos} (hN : X.N.Nodup) (hi : X.N[i]? = some x) (hx : Loc X.env.scope x) (he : WE X e te) (hf : X.fn x = true ∨ X.env.scope.names.lookup x = some .local := by first | exact .inl rfl | exact .inr rfl | assumption) : WS X (.AugAssign (.Name x pos') .Mult e pos) (tAu i dMul te) :=
  ws_aug hN hi hx he iop_mulW (ok_II (C := CMulW) (g := fun i j => .int (i * j)) fun _ _ _ => rfl) n_I hf
theorem ws_augMod {i : Nat} {x : Str} {pos' : Pos} (hN : X.N.Nodup) (hi : X.N[i]? = some x) (hx : Loc X.env.scope x) (he : WE X e te) (hf : X.fn x = true ∨ X.env.scope.names.lookup x = some .local := by first | exact .inl rfl | exact .inr rfl | assumption) : WS X (.AugAssign (.Name x pos') .Mod e pos) (tAu i dMod te) :=
  ws_aug hN hi hx he iop_mod (ok_II (C := fun _ j => 0 < j) (g := fun i j => .int (i % j)) fun _ _ _ => rfl) n_I hf

/-! ### new lists by +, list * int -/
@[reducible] def tCatN (ta tb : TEp) : TNp := fun ρ S R => ta ρ S fun x S1 => tb ρ S1 fun y S2 => match vw S2 x, vw S2 y with
  | some (.list xs), some (.list ys) => xs.length + ys.length ≤ sizeLine ∧ R (xs ++ ys) S2
  | _, _ => False
theorem wn_cat (ha : WE X a ta) (hb : WE X b tb) : WN X (.BinOp a .Add b pos) (tCatN ta tb) := by
  refine ⟨fun c => pe_w (pe_op op_catL (ha.pe c) (hb.pe c)) fun σ H Q ⟨μ, ρ, S, R, f, h, q⟩ => ?_⟩
  refine ⟨μ, ρ, S, _, f, h, fun x S1 h1 μ1 v1 H1 p1 f1 r1 g1 => ⟨μ1, ρ, S1, _, f1, h1, fun y S2 h2 μ2 v2 H2 p2 f2 r2 g2 => ?_⟩⟩
  split at h2
  · rename_i xs ys e1 e2
    obtain ⟨l, us, rfl, s1, rr1⟩ := vw_rep f2 (r1.mono g2 p2) e1
    obtain ⟨l2, ws, rfl, s2, rr2⟩ := vw_rep f2 r2 e2
    refine ⟨l, l2, us, ws, rfl, rfl, s1, s2, by rw [← rr1.length, ← rr2.length]; exact h2.1, fun p hp => ?_⟩
    exact q _ S2 h2.2 μ2 p _ _ (p1.trans p2) (f2.same (same_new hp)) upd_same (f2.notIn hp) (f2.noH0 hp) (Reps.mono (.new hp) _ _ (rr1.append rr2)) (g1.trans (g2.trans (.new hp)))
  · exact h2.elim
theorem Reps.rep {K : PySem.W.Frag} {H : Hp} {ds : List PyData} {vs : List V} (r : Reps K H ds vs) : ∀ k : Nat, Reps K H (List.replicate k ds).flatten (List.replicate k vs).flatten
  | 0 => rfl
  | k + 1 => by rw [List.replicate_succ, List.replicate_succ, List.flatten_cons, List.flatten_cons]; exact r.append (Reps.rep r k)
/-- a new list times an int -/
@[reducible] def tRepN (ta : TNp) (tb : TEp) : TNp := fun ρ S R => ta ρ S fun xs S1 => tb ρ S1 fun y S2 => match y with
  | .d (.int k) => (-(2 ^ 63) ≤ k ∧ k < 2 ^ 63 ∧ xs.length * k.toNat ≤ sizeLine) ∧ R (List.replicate k.toNat xs).flatten S2
  | _ => False
theorem wn_rep {ta : TNp} (ha : WN X a ta) (hb : WE X b tb) : WN X (.BinOp a .Mult b pos) (tRepN ta tb) := by
  refine ⟨fun c => pe_w (pe_op op_rep (ha.pe c) (PE.anyF hb)) fun σ H Q ⟨μ, ρ, S, R, f, h, q⟩ => ?_⟩
  refine ⟨μ, ρ, S, _, f, h, fun xs S1 h1 μ1 p vs H1 p1 f1 hp np no rr g1 => ⟨_, μ1, ρ, S1, _, f1.sub, h1, fun y S2 h2 μ2 v2 H2 p2 f2 r2 g2 => ?_⟩⟩
  split at h2
  · rename_i k
    obtain ⟨⟨b1, b2, b3⟩, h2⟩ := h2
    have r2' : v2 = V.int k := r2
    refine ⟨p, k, vs, rfl, r2', f2.keep p _ hp np, b1, b2, by rw [← rr.length]; exact b3, fun p' hp' => ?_⟩
    have f3 := f1.back f2
    exact q _ S2 h2 μ2 p' _ _ (p1.trans p2) (f3.same (same_new hp')) upd_same (f3.notIn hp') (f3.noH0 hp') (Reps.mono (.new hp') _ _ ((Reps.mono g2 _ _ rr).rep k.toNat)) (g1.trans (g2.trans (.new hp')))
  · exact h2.elim

/-! ### repr -/
theorem repr_any {pins : List (Addr × Obj)} {σ : L2.St} {H : Hp} {s : Shared} {Q : VK} {d : PyData} {u : Value} {as : List Addr} (I : Inv X pins σ H s) (r : Reads s.heap u d as) (hs : d.showable = true) (hd : d.hasDict = false) (hg : X.A.guards = some []) (hu : X.A.units + (d.depth + 1) < cLine)
    (hsz : d.shown.length ≤ sizeLine) (ht : ∃ a, u = .ref a) (q : Q (.str d.shown) H) : wpAny (model X.prog X.w) X.A (PySem.call (.builtin "repr") [u]) (EP X pins σ Q) X.xe s := by
  obtain ⟨a, rfl⟩ := ht
  exact repr_of_reads' r hs (fun z => by rw [hd] at z; cases z) hg hu (fun _ _ h => h) (fun h' u tk keep => ⟨.str d.shown, H, I.kept (t' := tk) keep, ⟨_, rfl⟩, q⟩) hsz
def rRepr (K : PySem.W.Frag) : List V → Hp → VK → Prop := fun xs H Q => ∃ a d, xs = [.ref a] ∧ Dp K H (.ref a) d ∧ d.showable = true ∧ d.hasDict = false ∧ d.depth ≤ 60 ∧ d.shown.length ≤ sizeLine ∧ Q (.str d.shown) H
theorem call_reprD (hg : X.A.guards = some []) (hr : Room k X.A) : CallR X (.builtin "repr") (rRepr X.K) := by
  intro pins s σ H xs us Q I r h
  obtain ⟨a, d, rfl, hd, h1, h2, h3, h4, q⟩ := h
  obtain ⟨u, rfl, ru⟩ := vals1 r
  obtain ⟨as, rd⟩ := Dp.reads I d _ _ hd ru
  have hun := hr.units
  exact repr_any I rd h1 h2 hg (by omega) h4 ⟨a, ru⟩ q
end
/-! a bound of a text's length -/
mutual
def bndD : PyData → Nat
  | .int _ => 2000
  | .none => 4
  | .bool _ => 5
  | .list xs => bndsD xs + 2
  | .tuple xs => bndsD xs + 3
  | .str z => (reprText z).length
  | _ => 20000000
def bndsD : List PyData → Nat
  | [] => 0
  | x :: xs => bndD x + 2 + bndsD xs
end
mutual
def RpOk : PyData → Prop
  | .int i => i.natAbs.log2 < 1920
  | .none => True
  | .bool _ => True
  | .list xs => RpsOk xs
  | .tuple xs => RpsOk xs
  | .str _ => True
  | _ => False
def RpsOk : List PyData → Prop
  | [] => True
  | x :: xs => RpOk x ∧ RpsOk xs
end
mutual
theorem noD_rp : ∀ {d : PyData}, RpOk d → noD d = true
  | .none, _ => rfl
  | .bool _, _ => rfl
  | .int _, _ => rfl
  | .str _, _ => rfl
  | .list xs, h => noDs_rp (xs := xs) h
  | .tuple xs, h => noDs_rp (xs := xs) h
  | .dict _, h => h.elim
theorem noDs_rp : ∀ {xs : List PyData}, RpsOk xs → noDs xs = true
  | [], _ => rfl
  | x :: xs, h => by
    simp only [noDs, Bool.and_eq_true]
    exact ⟨noD_rp h.1, noDs_rp h.2⟩
end
theorem textFrom_le : ∀ (ts : List Str) (k : Nat) (acc : Str), (textFrom k acc ts).length ≤ acc.length + piled ts
  | [], _, acc => by rw [piled_nil]; exact Nat.le_refl _
  | t :: r, k, acc => by
    have h := textFrom_le r (k + 1) (acc ++ (if k > 0 then ", " else "" : String) ++ t)
    have e : (acc ++ (if k > 0 then ", " else "" : String) ++ t).length ≤ acc.length + 2 + t.length := by
      rw [strLen_append, strLen_append]
      split
      · exact Nat.le_refl _
      · show acc.length + 0 + t.length ≤ _; omega
    rw [piled_cons]
    show (textFrom (k + 1) (acc ++ (if k > 0 then ", " else "" : String) ++ t) r).length ≤ _
    omega
theorem tupleText_le (ts : List Str) : (tupleText ts).length ≤ piled ts + 3 := by
  unfold tupleText
  rw [strLen_append, strLen_append]
  have e1 : (("(" : Str)).length = 1 := rfl
  have e2 : (Str.ofString (if (ts.length == 1) = true then ",)" else ")")).length ≤ 2 := by split <;> decide
  cases ts with
  | nil => rw [piled_nil]; decide
  | cons t r =>
    have := join_length_add (t :: r) (by simp)
    have e3 : ((if ((t :: r).length == 1) = true then ",)" else ")" : String) : Str).length ≤ 2 := by split <;> decide
    omega
mutual
theorem shown_le : ∀ d : PyData, RpOk d → d.shown.length ≤ bndD d ∧ d.showable = true ∧ d.hasDict = false
  | .int i, h => by
    have h' : i.natAbs.log2 < 1920 := h
    have := int_text_length_le (by omega) h'
    refine ⟨?_, by simp only [PyData.showable, h', decide_true], by simp only [PyData.hasDict]⟩
    simp only [PyData.shown, bndD]
    have e : (Str.ofString (toString i)).length = (toString i).length := PySem.ofString_length _
    omega
  | .none, _ => by simp only [PyData.shown, bndD, PyData.showable, PyData.hasDict, and_true]; decide
  | .bool b, _ => by cases b <;> (simp only [PyData.shown, bndD, PyData.showable, PyData.hasDict, and_true]; decide)
  | .list xs, h => by
    obtain ⟨a, b, c⟩ := shownAll_le xs h
    simp only [PyData.shown, bndD, PyData.showable, PyData.hasDict]
    refine ⟨?_, b, c⟩
    unfold listText
    rw [strLen_append]
    have := textFrom_le (PyData.shownAll xs) 0 "["
    have e1 : (("[" : Str)).length = 1 := rfl
    have e2 : (("]" : Str)).length = 1 := rfl
    omega
  | .tuple xs, h => by
    obtain ⟨a, b, c⟩ := shownAll_le xs h
    simp only [PyData.shown, bndD, PyData.showable, PyData.hasDict]
    refine ⟨?_, b, c⟩
    have := tupleText_le (PyData.shownAll xs)
    omega
  | .str z, _ => by
    simp only [PyData.shown, bndD, PyData.showable, PyData.hasDict, and_true]
    exact Nat.le_refl _
  | .dict _, h => h.elim
theorem shownAll_le : ∀ xs : List PyData, RpsOk xs → piled (PyData.shownAll xs) ≤ bndsD xs ∧ PyData.showableAll xs = true ∧ PyData.hasDictAll xs = false
  | [], _ => by simp only [PyData.shownAll, bndsD, PyData.showableAll, PyData.hasDictAll, piled_nil, and_true]; exact Nat.le_refl _
  | x :: xs, h => by
    obtain ⟨h1, h2⟩ := h
    obtain ⟨a, b, c⟩ := shown_le x h1
    obtain ⟨a', b', c'⟩ := shownAll_le xs h2
    simp only [PyData.shownAll, bndsD, PyData.showableAll, PyData.hasDictAll, piled_cons, b, b', c, c', Bool.and_self, Bool.or_self, and_true]
    omega
end
section
variable {X : Cx} {K : PySem.W.Frag}
@[reducible] def aRepr : OpA := fun ds k => match ds with
  | [.list xs] => (RpsOk xs ∧ (PyData.list xs).depth ≤ 60 ∧ bndD (.list xs) ≤ sizeLine) ∧ k (.str (PyData.list xs).shown)
  | [.tuple xs] => (RpsOk xs ∧ (PyData.tuple xs).depth ≤ 60 ∧ bndD (.tuple xs) ≤ sizeLine) ∧ k (.str (PyData.tuple xs).shown)
  | _ => False
theorem ok_repr : OpaOk K (rRepr K) aRepr := by
  intro H ds vs k Q r h q
  unfold aRepr at h
  split at h
  · rename_i xs
    cases r with
    | cons r t =>
      cases t
      obtain ⟨⟨h1, h2, h3⟩, h⟩ := h
      obtain ⟨s1, s2, s3⟩ := shown_le (.list xs) h1
      have dp := dp_ofR (noD_rp (d := .list xs) h1) r
      obtain ⟨l, us, rfl, s, rr⟩ := r
      exact ⟨l, _, rfl, dp, s2, s3, h2, Nat.le_trans s1 h3, q.val _ _ H h rfl (.refl _)⟩
  · rename_i xs
    cases r with
    | cons r t =>
      cases t
      obtain ⟨⟨h1, h2, h3⟩, h⟩ := h
      obtain ⟨s1, s2, s3⟩ := shown_le (.tuple xs) h1
      have dp := dp_ofR (noD_rp (d := .tuple xs) h1) r
      obtain ⟨l, us, rfl, s, rr⟩ := r
      exact ⟨l, _, rfl, dp, s2, s3, h2, Nat.le_trans s1 h3, q.val _ _ H h rfl (.refl _)⟩
  · exact h.elim
end
end Pu

set_option autoImplicit false
namespace Pu
open PySem PySem.Spec PyProof.Rows L2
section
variable {X : Cx} {K : PySem.W.Frag}
theorem call_max3 (hc : X.calm = true) : CallR X (.builtin "max") (fun xs H Q => ∃ i j l, xs = [.int i, .int j, .int l] ∧ Q (.int (if j > i then (if l > j then l else j) else (if l > i then l else i))) H) := by
  intro pins s σ H xs us Q I r h
  obtain ⟨i, j, l, rfl, q⟩ := h
  cases r with
  | cons r1 r =>
    cases r with
    | cons r2 r =>
      obtain ⟨u3, rfl, r3⟩ := vals1 r
      obtain ⟨t1, rfl⟩ := r1
      obtain ⟨t2, rfl⟩ := r2
      obtain ⟨t3, rfl⟩ := r3
      refine max_three_ints (I.ok.hd hc) fun h' tk k => ⟨_, H, I.kept k, ?_, q⟩
      by_cases h1 : j > i
      · rw [if_pos h1, if_pos h1]; split <;> exact ⟨_, rfl⟩
      · rw [if_neg h1, if_neg h1]; split <;> exact ⟨_, rfl⟩
@[reducible] def aMax3 : OpA := fun ds k => match ds with
  | [.int i, .int j, .int l] => k (.int (if j > i then (if l > j then l else j) else (if l > i then l else i)))
  | _ => False
theorem ok_max3 : OpaOk K (fun xs H Q => ∃ i j l, xs = [.int i, .int j, .int l] ∧ Q (.int (if j > i then (if l > j then l else j) else (if l > i then l else i))) H) aMax3 := by
  intro H ds vs k Q r h q
  unfold aMax3 at h
  split at h
  · rename_i i j l
    cases r with
    | cons r t =>
      cases t with
      | cons r' t =>
        cases t with
        | cons r'' t =>
          cases t
          exact ⟨i, j, l, by rw [show _ = V.int i from r, show _ = V.int j from r', show _ = V.int l from r''], q.val _ _ H h rfl (.refl _)⟩
  · exact h.elim
end
section
variable {X : Cx} {a b e : Expr} {ta tb tc : TEp} {pos : Pos}
theorem up_q {K : PySem.W.Frag} {c : FP} {t : TEp} {σ : L2.St} {H : Hp} {Q Q' : VK} (h : up K c t σ H Q) (hq : ∀ v H1, Q v H1 → Q' v H1) : up K c t σ H Q' := by
  obtain ⟨μ, ρ, S, R, f, h, q⟩ := h
  exact ⟨μ, ρ, S, R, f, h, fun pv S' r1 μ' v H' p' f' rp g' => hq _ _ (q pv S' r1 μ' v H' p' f' rp g')⟩
/-- a < b < c as a test -/
theorem wt_chain {op op' : CmpOp} {r r' : R2} {pp pp' : OpD} (hp : OpdOk X.K r pp) (hp' : OpdOk X.K r' pp') (hr : R2m r) (hr' : R2m r') (ha : WE X a ta) (hb : WE X b tb) (hc : WE X e tc)
    (hl : ∀ t1 t2 t3, PE X a t1 → PE X b t2 → PE X e t3 → PT X (.Compare a [op, op'] [b, e] pos) (tTest (tChain r r' t1 t2 t3))) : WT X (.Compare a [op, op'] [b, e] pos) (tTst (tCh pp pp' ta tb tc)) := by
  refine ⟨fun c => pt_w (hl _ _ _ (ha.pe c) (hb.pe c) (hc.pe c)) fun σ H Q ⟨μ, ρ, S, R, f, h, q⟩ => ?_⟩
  have z := chain_up (e := e) hp hp' (tst_up f h q) hr
  have fz : ∀ v H1, Fz (fun x H1 => ∃ k, x = V.bl k ∧ Q k H1) v H1 → ∃ k, v = V.bl k ∧ Q k H1 := fun v H1 z => by
    rcases z with z | ⟨a, vs, rfl, _, z⟩
    · exact z
    · obtain ⟨k, e, _⟩ := z { cls := .none, data := .fields #[] }
      cases e
  exact up_q z fun x H1 z => up_q z fun y H2 z => hr _ _ _ _ _ (fun v H3 ⟨k, e, z⟩ => ⟨k, e, by
    cases k with
    | true => exact iteT (up_q ((if_pos rfl).mp z) fun w H4 z => hr' _ _ _ _ _ (fun v H5 z => fz v H5 z) z)
    | false => exact iteF (fz _ _ ((if_neg Bool.false_ne_true).mp z))⟩) z
end
theorem okLe {K : PySem.W.Frag} : OpdOk K (rI0 fun i j => .bl (decide (i ≤ j))) dLe := ok_I0 fun _ _ _ => rfl
theorem okLt {K : PySem.W.Frag} : OpdOk K (rI0 fun i j => .bl (decide (i < j))) dLt := ok_I0 fun _ _ _ => rfl
/-- the test says not-equal of equal things -/
theorem brNE {p : Prop} [Decidable p] {A B : Prop} (h : p) (hb : B) : Br (bnot (decide p)) A B := brF (by rw [decide_eq_true h]) hb
theorem brNT {p : Prop} [Decidable p] {A B : Prop} (h : ¬ p) (ha : A) : Br (bnot (decide p)) A B := brT (by rw [decide_eq_false h]) ha
end Pu

set_option autoImplicit false
namespace Pu
open PySem PySem.Spec PyProof.Rows L2
section
variable {X : Cx} {K : PySem.W.Frag} {a b e : Expr} {ta tb te : TEp} {pos : Pos} {k n : Nat} {x : Str} {p : Pos} {es : List Expr} {t : TAp}
/-- a new list as a cell of the store -/
@[reducible] def tNw (t : TNp) : TEp := fun ρ S R => t ρ S fun xs S1 => R (.cel (lenS S1)) (snocS S1 (.lst xs))
theorem w_cell {t : TNp} (h : WN X e t) : WE X e (tNw t) := by
  refine ⟨fun c => pe_w (h.pe c) fun σ H Q ⟨μ, ρ, S, R, f, h, q⟩ => ?_⟩
  refine ⟨μ, ρ, S, _, f, h, fun xs S1 h1 μ1 p vs H1 p1 f1 hp np no rr g1 => ?_⟩
  exact q (.cel (lenS S1)) _ h1 (μ1 ++ [p]) (.ref p) H1 (p1.trans ⟨[p], rfl⟩) (f1.newCell hp np no rr) ⟨p, by rw [lenS_eq, paired_len f1.cel]; simp, rfl⟩ g1

/-! ### pop -/
theorem seqIx {j n : Nat} (h : j < n) : PySem.seqIndex? (j : Int) n = some j := by
  have e : (if (j : Int) < 0 then (j : Int) + n else j) = j := if_neg (by omega)
  show (if (0 ≤ (if (j : Int) < 0 then (j : Int) + n else j) && (if (j : Int) < 0 then (j : Int) + n else j) < n) = true then some (Int.toNat (if (j : Int) < 0 then (j : Int) + n else j)) else none) = some j
  rw [e, if_pos (by simp; omega)]; rfl
theorem Reps.eraseIdx {H : Hp} : ∀ {ds : List PyData} {vs : List V}, Reps K H ds vs → ∀ k : Nat, Reps K H (ds.eraseIdx k) (vs.eraseIdx k)
  | [], _, h, k => by rw [show _ = [] from h]; simp; rfl
  | _ :: _, _, ⟨v, vs, e, r, t⟩, 0 => by subst e; simpa using t
  | _ :: _, _, ⟨v, vs, e, r, t⟩, k + 1 => by subst e; exact ⟨v, _, by simp, r, Reps.eraseIdx t k⟩
@[irreducible] def onPop (xs : List PyData) (i : Int) (k : PyData → List PyData → Prop) : Prop := ∃ (j : Nat) (y : PyData), i = (j : Int) ∧ i < 2 ^ 63 ∧ xs[j]? = some y ∧ k y (xs.eraseIdx j)
theorem pop_ok {xs : List PyData} {j : Nat} {y : PyData} {k : PyData → List PyData → Prop} (h : xs[j]? = some y) (hj : (j : Int) < 2 ^ 63) (hk : k y (xs.eraseIdx j)) : onPop xs (j : Int) k := by
  unfold onPop; exact ⟨j, y, rfl, hj, h, hk⟩
@[reducible] def tPopAt (i : Nat) (te : TEp) : TEp := fun ρ S R => match sltAt ρ i with
  | some (.cel j) => match cellAt S j with
    | some (.lst _) => te ρ S fun v S2 => match v with
      | .d (.int n) => match cellAt S2 j with
        | some (.lst xs) => onPop xs n fun y ys => R (.d y) (setS S2 j (.lst ys))
        | _ => False
      | _ => False
    | _ => False
  | _ => False
theorem w_popAt {i : Nat} {o a : Expr} {ta : TEp} {apos cpos : Pos} (ha : WE X a ta) (hp : ∀ t, PE X a t → PE X (.Call (.Attribute o "pop" apos) [a] [] cpos) (tBM X.K "list" rPopAt (tVar i) (tCons t tNil))) :
    WE X (.Call (.Attribute o "pop" apos) [a] [] cpos) (tPopAt i ta) := by
  refine ⟨fun c => pe_w (hp _ (ha.pe c)) fun σ H Q ⟨μ, ρ, S, R, f, h, q⟩ => ?_⟩
  unfold tPopAt at h
  split at h
  · rename_i j e0
    obtain ⟨v1, hv, a, ha, rfl⟩ := f.slot (sltAt_get e0)
    split at h
    · rename_i xs0 e1
      rw [cellAt_get] at e1
      obtain ⟨a', ha', vs, e3, rr⟩ := f.at e1
      rw [ha] at ha'; cases ha'
      refine ⟨_, hv, .inl ⟨rfl, _, .of e3⟩, μ, ρ, S, _, f, h, fun y S2 h2 μ2 v2 H2 p2 f2 r2 g2 => ?_⟩
      split at h2
      · rename_i n
        rw [cellAt_get] at h2
        split at h2
        · rename_i ys e4
          unfold onPop at h2
          obtain ⟨jj, y, rfl, hn, hy, h2⟩ := h2
          obtain ⟨a', ha', ws, e5, rr2⟩ := f2.at e4
          have ha3 := p2.get ha
          rw [ha3] at ha'; cases ha'
          obtain ⟨w, hw, rw'⟩ := rr2.get hy
          obtain ⟨f4, g4⟩ := f2.write (o := .lst (ws.eraseIdx jj)) (y := .lst (ys.eraseIdx jj)) e4 ha3 ⟨_, upd_same, Reps.mono (.put e5) _ _ (rr2.eraseIdx jj)⟩
          have hl : jj < ws.length := (List.getElem?_eq_some_iff.mp hw).1
          refine ⟨a, ws, _, jj, w, rfl, by rw [show v2 = V.int jj from r2], e5, by omega, hn, ?_, hw, ?_⟩
          · exact seqIx hl
          · exact q (.d y) _ h2 μ2 w _ p2 f4 (Rep.mono g4 _ _ rw') (g2.trans g4)
        · exact h2.elim
      · exact h2.elim
    · exact h.elim
  · exact h.elim
/-! ### slices -/
abbrev TOp := Rho → Sto → (Option Int → Sto → Prop) → Prop
def upO (K : PySem.W.Frag) (c : FP) (t : TOp) : TO := fun σ H Q => ∃ μ ρ S R, Fr K c μ ρ S σ H ∧ t ρ S R ∧ ∀ o S', R o S' → ∀ μ' H', Pre μ μ' → Fr K c μ' ρ S' σ H' → Ge H H' → Q o H'
structure WO (X : Cx) (e : Option Expr) (t : TOp) : Prop where
  po : ∀ c, PO X e (upO X.K c t)
@[reducible] def oNone : TOp := fun _ S R => R none S
@[reducible] def oSome (t : TEp) : TOp := fun ρ S R => t ρ S fun x S1 => match x with
  | .d (.int i) => R (some i) S1
  | _ => False
theorem wo_none : WO X none oNone := ⟨fun c => ⟨fun pins s σ H Q I ⟨μ, ρ, S, R, f, h, q⟩ => po_none.run pins s σ H Q I (q _ _ h μ H (.refl _) f (.refl _))⟩⟩
theorem wo_some {t : TEp} (h : WE X e t) : WO X (some e) (oSome t) := by
  refine ⟨fun c => ⟨fun pins s σ H Q I ⟨μ, ρ, S, R, f, hh, q⟩ => (po_some (h.pe c)).run pins s σ H Q I ⟨μ, ρ, S, _, f, hh, fun x S1 h1 μ1 v1 H1 p1 f1 r1 g1 => ?_⟩⟩⟩
  split at h1
  · rename_i i
    exact ⟨i, r1, q _ _ h1 μ1 H1 p1 f1 g1⟩
  · exact h1.elim
def cutL (xs : List PyData) (lo hi : Option Int) : List PyData := (xs.drop (HT.sIx xs.length 0 lo)).take (HT.sIx xs.length xs.length hi - HT.sIx xs.length 0 lo)
theorem Reps.cut {H : Hp} {ds : List PyData} {vs : List V} (r : Reps K H ds vs) (lo hi : Option Int) : Reps K H (cutL ds lo hi) (cutV vs lo hi) := by
  unfold cutL cutV
  rw [r.length]
  exact (r.drop _).take _
@[reducible] def tSlN (te : TEp) (tl th : TOp) : TNp := fun ρ S R => te ρ S fun x S1 => tl ρ S1 fun lo S2 => th ρ S2 fun hi S3 => match vw S3 x with
  | some (.list xs) => R (cutL xs lo hi) S3
  | _ => False
theorem wn_slice {lo hi : Option Expr} {tl th : TOp} {p2 : Pos} (he : WE X e te) (hl : WO X lo tl) (hu : WO X hi th) : WN X (.Subscript e (.Slice lo hi none p2) pos) (tSlN te tl th) := by
  refine ⟨fun c => pe_w (pe_slice sl_list (he.pe c) (hl.po c) (hu.po c)) fun σ H Q ⟨μ, ρ, S, R, f, h, q⟩ => ?_⟩
  refine ⟨μ, ρ, S, _, f, h, fun x S1 h1 μ1 v1 H1 p1 f1 r1 g1 => ⟨μ1, ρ, S1, _, f1, h1, fun lo S2 h2 μ2 H2 p2 f2 g2 => ⟨μ2, ρ, S2, _, f2, h2, fun hi S3 h3 μ3 H3 p3 f3 g3 => ?_⟩⟩⟩
  split at h3
  · rename_i xs e3
    obtain ⟨l, us, rfl, s, rr⟩ := vw_rep f3 (r1.mono (g2.trans g3) (p2.trans p3)) e3
    exact ⟨l, us, rfl, s.seq, fun p hp => q _ S3 h3 μ3 p _ _ (p1.trans (p2.trans p3)) (f3.same (same_new hp)) upd_same (f3.notIn hp) (f3.noH0 hp) (Reps.mono (.new hp) _ _ (rr.cut lo hi)) (g1.trans (g2.trans (g3.trans (.new hp))))⟩
  · exact h3.elim

/-! ### list(xs) -/
@[reducible] def tLof (ta : TEp) : TNp := fun ρ S R => ta ρ S fun x S1 => match vw S1 x with
  | some (.list xs) => R xs S1
  | some (.tuple xs) => R xs S1
  | _ => False
theorem wn_listOf {ce : Expr} (ha : WE X a ta) (hl : ∀ t, PE X a t → PE X ce (tCB (fun xs H Q => ∃ p ys, xs = [V.ref p] ∧ (SqL X.K H p ys ∨ SqT X.K H p ys) ∧ ∀ l, H l = none → Q (.ref l) (upd H l (.lst ys))) (tCons t tNil))) : WN X ce (tLof ta) := by
  refine ⟨fun c => pe_w (hl _ (ha.pe c)) fun σ H Q ⟨μ, ρ, S, R, f, h, q⟩ => ?_⟩
  refine ⟨μ, ρ, S, _, f, h, fun x S1 h1 μ1 v1 H1 p1 f1 r1 g1 => ?_⟩
  split at h1
  · rename_i xs e1
    obtain ⟨l, us, rfl, s, rr⟩ := vw_rep f1 r1 e1
    exact ⟨l, us, rfl, .inl s.seq, fun p hp => q _ S1 h1 μ1 p _ _ p1 (f1.same (same_new hp)) upd_same (f1.notIn hp) (f1.noH0 hp) (Reps.mono (.new hp) _ _ rr) (g1.trans (.new hp))⟩
  · rename_i xs e1
    obtain ⟨l, us, rfl, s, rr⟩ := vw_rep f1 r1 e1
    exact ⟨l, us, rfl, .inr s, fun p hp => q _ S1 h1 μ1 p _ _ p1 (f1.same (same_new hp)) upd_same (f1.notIn hp) (f1.noH0 hp) (Reps.mono (.new hp) _ _ rr) (g1.trans (.new hp))⟩
  · exact h1.elim

/-! ### is, of truth values -/
@[reducible] def dIsB (g : Bool → Bool) : OpD := fun a b k => match a, b with
  | .bool a, .bool b => k (.bool (g (decide (a = b))))
  | _, _ => False
theorem ok_isB : OpdOk K (fun x y H Q => ∃ a b, x = V.bl a ∧ y = V.bl b ∧ Q (.bl (decide (a = b))) H) (dIsB id) := by
  intro H a b va vb k Q ra rb h q
  unfold dIsB at h
  split at h
  · rename_i a b
    exact ⟨a, b, ra, rb, q.val _ _ H h rfl (.refl _)⟩
  · exact h.elim
theorem ok_notB : OpdOk K (fun x y H Q => ∃ a b, x = V.bl a ∧ y = V.bl b ∧ Q (.bl (!decide (a = b))) H) (dIsB bnot) := by
  intro H a b va vb k Q ra rb h q
  unfold dIsB at h
  split at h
  · rename_i a b
    exact ⟨a, b, ra, rb, q.val _ _ H h (by rw [bnot_eq]; rfl) (.refl _)⟩
  · exact h.elim
theorem m_isB {g : Bool → Bool → V} : R2m (fun x y H Q => ∃ a b, x = V.bl a ∧ y = V.bl b ∧ Q (g a b) H) := fun _ _ _ _ _ h ⟨a, b, e, e', q⟩ => ⟨a, b, e, e', h _ _ q⟩
theorem w_isB (ha : WE X a ta) (hb : WE X b tb) : WE X (.Compare a [.Is] [b] pos) (tBin (dIsB id) ta tb) := w_cmp op_is_bl ok_isB ha hb (nomark _)
theorem w_notB (ha : WE X a ta) (hb : WE X b tb) : WE X (.Compare a [.IsNot] [b] pos) (tBin (dIsB bnot) ta tb) := w_cmp op_isnot_bl ok_notB ha hb (nomark _)
theorem wt_isB (ha : WE X a ta) (hb : WE X b tb) : WT X (.Compare a [.Is] [b] pos) (tTst (tBin (dIsB id) ta tb)) := w_tcmp op_is_bl ok_isB (m_isB (g := fun a b => .bl (decide (a = b)))) ha hb (nomark _)
theorem wt_notB (ha : WE X a ta) (hb : WE X b tb) : WT X (.Compare a [.IsNot] [b] pos) (tTst (tBin (dIsB bnot) ta tb)) := w_tcmp op_isnot_bl ok_notB (m_isB (g := fun a b => .bl (!decide (a = b)))) ha hb (nomark _)
/-! ### a, b, .. = a list -/
@[reducible] def gUl (n : Nat) (u : TGsp) : TGp := fun x ρ R => match x with
  | .list xs => LenIs xs n (u xs ρ R)
  | _ => False
theorem wg_list {tgs : List Expr} {k n : Nat} {ws : List Nat} {u : TGsp} (hc : X.calm = true) (h : WGs X tgs ws u) (hn : (assignEach tgs X.env).length = n := by rfl) (hst : (assignEach tgs X.env).findIdx? (·.1) = none := by rfl) :
    WG X (.Tuple tgs k pos) ws (gUl n u) := by
  refine ⟨fun c => pg_w (pg_unl hc (h.pg c) hn hst) fun v σ H Q ⟨μ, ρ, S, x, R, f, r, h, q⟩ => ?_⟩
  cases x with
  | list xs =>
    obtain ⟨a, vs, rfl, s, rr⟩ := r
    obtain ⟨hl, h⟩ := LenIs.out h
    exact ⟨a, vs, rfl, s.seq, by rw [← rr.length, hl], μ, ρ, S, xs, R, f, rr, h, q⟩
  | _ => exact h.elim
/-! ### divmod -/
@[reducible] def tDm (ta : TAp) : TEp := fun ρ S R => ta ρ S fun pvs S1 => match dsOf S1 pvs with
  | some [.int i, .int j] => CDivP i j ∧ R (.d (.tuple [.int (i / j), .int (i % j)])) S1
  | _ => False
theorem w_divmod {ce : Expr} (ha : WA X es n t) (hl : ∀ t, PA X es t → PE X ce (tCB (fun xs H Q => ∃ i j, xs = [V.int i, V.int j] ∧ CDivP i j ∧ ∀ p, H p = none → Q (.ref p) (upd H p (.tup [.int (i / j), .int (i % j)]))) t)) : WE X ce (tDm t) := by
  refine ⟨fun c => pe_w (hl _ (ha.pa c)) fun σ H Q ⟨μ, ρ, S, R, f, h, q⟩ => ?_⟩
  refine ⟨μ, ρ, S, _, f, h, fun pvs S1 h1 hl μ1 vs H1 p1 f1 r1 g1 => ?_⟩
  split at h1
  · rename_i i j e1
    have rr := dsOf_rep f1 r1 e1
    cases rr with
    | cons ra rr =>
      cases rr with
      | cons rb rr =>
        cases rr
        refine ⟨i, j, by rw [show _ = V.int i from ra, show _ = V.int j from rb], h1.1, fun p hp => ?_⟩
        exact q _ S1 h1.2 μ1 (.ref p) _ p1 (f1.same (same_new hp)) ⟨p, [.int (i / j), .int (i % j)], rfl, .of upd_same, ⟨_, _, rfl, rfl, _, _, rfl, rfl, rfl⟩⟩ (g1.trans (.new hp))
  · exact h1.elim
/-! ### repr of an int too -/
def rReprI (K : PySem.W.Frag) : List V → Hp → VK → Prop := fun xs H Q => rRepr K xs H Q ∨ ∃ i, xs = [V.int i] ∧ i.natAbs.log2 < 1920 ∧ Q (.str (toString i)) H
@[reducible] def aReprI : OpA := fun ds k => match ds with
  | [.list xs] => (RpsOk xs ∧ (PyData.list xs).depth ≤ 60 ∧ bndD (.list xs) ≤ sizeLine) ∧ k (.str (PyData.list xs).shown)
  | [.tuple xs] => (RpsOk xs ∧ (PyData.tuple xs).depth ≤ 60 ∧ bndD (.tuple xs) ≤ sizeLine) ∧ k (.str (PyData.tuple xs).shown)
  | [.int i] => i.natAbs.log2 < 1920 ∧ k (.str (PyData.int i).shown)
  | _ => False
theorem ok_reprI : OpaOk K (rReprI K) aReprI := by
  intro H ds vs k Q r h q
  unfold aReprI at h
  split at h
  · exact .inl (ok_repr H _ vs k Q r h q)
  · exact .inl (ok_repr H _ vs k Q r h q)
  · rename_i i
    cases r with
    | cons r t =>
      cases t
      refine .inr ⟨i, by rw [show _ = V.int i from r], h.1, q.val _ _ H h.2 ?_ (.refl _)⟩
      show V.str _ = V.str _
      rw [PyData.shown]
  · exact h.elim
theorem call_reprI (hg : X.A.guards = some []) (hr : Room k X.A) : CallR X (.builtin "repr") (rReprI X.K) := (call_reprD hg hr).or SkE.call_repr_int
/-! ### sorted, of ints -/
@[irreducible] def srtI (bs : List Int) (k : PyData → Prop) : Prop := ∀ ns' : List Int, ns'.Perm bs → ns'.Pairwise (· ≤ ·) → k (.list (ns'.map PyData.int))
theorem srt_ok {bs : List Int} {k : PyData → Prop} (h : ∀ ns' : List Int, ns'.Perm bs → ns'.Pairwise (· ≤ ·) → k (.list (ns'.map PyData.int))) : srtI bs k := by unfold srtI; exact h
@[reducible] def aSorted : OpA := fun ds k => match ds with
  | [.list xs] => match intsD xs with
    | some bs => srtI bs k
    | none => False
  | _ => False
theorem ok_sorted : OpaOk K (rSortedI K) aSorted := by
  intro H ds vs k Q r h q
  unfold aSorted at h
  split at h
  · rename_i xs
    split at h
    · rename_i bs e
      cases r with
      | cons r t =>
        cases t
        obtain ⟨l, us, rfl, s, rr⟩ := r
        rw [intsD_eq e] at rr
        rw [Reps.ints rr] at s
        unfold srtI at h
        exact ⟨l, bs, rfl, s.seq, fun ns' p hp hs hn => q.new _ p _ (h ns' hp hs) hn Reps.of_ints⟩
    · exact h.elim
  · exact h.elim
/-! ### a part of a tuple -/
@[irreducible] def onCut (ys : List PyData) (k : List PyData → Prop) : Prop := k ys
theorem cut_ok {ys zs : List PyData} {k : List PyData → Prop} (h : ys = zs) (hk : k zs) : onCut ys k := by
  unfold onCut; rw [h]; exact hk
@[reducible] def tSlT (te : TEp) (tl th : TOp) : TEp := fun ρ S R => te ρ S fun x S1 => tl ρ S1 fun lo S2 => th ρ S2 fun hi S3 => match vw S3 x with
  | some (.tuple xs) => ¬ (HT.sIx xs.length 0 lo = 0 ∧ HT.sIx xs.length xs.length hi = xs.length) ∧ onCut (cutL xs lo hi) fun ys => R (.d (.tuple ys)) S3
  | _ => False
theorem w_slT {lo hi : Option Expr} {tl th : TOp} {p2 : Pos} (he : WE X e te) (hl : WO X lo tl) (hu : WO X hi th) : WE X (.Subscript e (.Slice lo hi none p2) pos) (tSlT te tl th) := by
  refine ⟨fun c => pe_w (pe_slice sl_tup (he.pe c) (hl.po c) (hu.po c)) fun σ H Q ⟨μ, ρ, S, R, f, h, q⟩ => ?_⟩
  refine ⟨μ, ρ, S, _, f, h, fun x S1 h1 μ1 v1 H1 p1 f1 r1 g1 => ⟨μ1, ρ, S1, _, f1, h1, fun lo S2 h2 μ2 H2 p2 f2 g2 => ⟨μ2, ρ, S2, _, f2, h2, fun hi S3 h3 μ3 H3 p3 f3 g3 => ?_⟩⟩⟩
  split at h3
  · rename_i xs e3
    obtain ⟨l, us, rfl, s, rr⟩ := vw_rep f3 (r1.mono (g2.trans g3) (p2.trans p3)) e3
    unfold onCut at h3
    refine ⟨l, us, rfl, s, by rw [← rr.length]; exact h3.1, fun p hp => ?_⟩
    exact q _ S3 h3.2 μ3 (.ref p) _ (p1.trans (p2.trans p3)) (f3.same (same_new hp)) ⟨p, _, rfl, .of upd_same, Reps.mono (.new hp) _ _ (rr.cut lo hi)⟩ (g1.trans (g2.trans (g3.trans (.new hp))))
  · exact h3.elim
end
end Pu

set_option autoImplicit false
namespace Pu
open PySem PySem.Spec PyProof.Rows L2
open PySem.W (alike alike_unique AlikeAll minD maxD min_list_default max_list_default minD_ints reads_keeps dataLt)
section
variable {X : Cx} {K : PySem.W.Frag} {a b e : Expr} {ta tb te td : TEp} {pos : Pos} {k n : Nat} {x : Str} {p : Pos} {es : List Expr} {t : TAp}
/-! ### min(xs, default=z), max(xs, default=z), over data -/
theorem same_read {h : Heap} {d d' : PyData} {v : Value} {as as' : List Addr} (r : Reads h v d as) (r' : Reads h v d' as') (ha : alike d d' = true) : d = d' := alike_unique d d' v as as' ha r r'
theorem minD_mem (dlt : PyData → PyData → Bool) : ∀ (xs : List PyData) (x : PyData), xs.foldl (fun a y => if dlt y a then y else a) x ∈ x :: xs
  | [], x => by simp
  | y :: ys, x => by
    rw [List.foldl_cons]
    have := minD_mem dlt ys (if dlt y x then y else x)
    rw [List.mem_cons] at this ⊢
    rcases this with h | h
    · by_cases c : dlt y x = true
      · rw [if_pos c] at h; right; rw [if_pos c, h]; simp
      · rw [if_neg c] at h; left; rw [if_neg c]; exact h
    · right; exact List.mem_cons_of_mem _ h
def rMinDf (K : PySem.W.Frag) : List V → List V → Hp → VK → Prop := fun xs zs H Q => ∃ (a : Addr) (vs : List V) (ds : List PyData) (z : V), xs = [.ref a] ∧ zs = [z] ∧ SqL K H a vs ∧ DpAll K H vs ds ∧ AlikeAll ds ∧ PyData.depthAll ds ≤ 60 ∧
  (ds = [] → Q z H) ∧ ∀ y ys (i : Nat) v, ds = y :: ys → vs[i]? = some v → ds[i]? = some (minD y ys) → Q v H
theorem readsAll_ix {h : Heap} : ∀ {us : List Value} {ds : List PyData} {as : List Addr}, ReadsAll h us ds as → ∀ (i : Nat) (u : Value), us[i]? = some u → ∃ d bs, ds[i]? = some d ∧ Reads h u d bs
  | _, _, _, .nil, i, u, e => by simp at e
  | _, _, _, .cons (d := d) r _, 0, u, e => by
    simp at e; subst e; exact ⟨d, _, rfl, r⟩
  | _, _, _, .cons _ t, i + 1, u, e => readsAll_ix t i u (by simpa using e)
theorem cr_minDf (hc : X.calm = true) (hr : Room k X.A) : CallRK X (.builtin "min") [Str.ofString "default"] (rMinDf X.K) := by
  intro pins s σ H xs zs us ws Q I r rz h
  obtain ⟨a, vs, ds, z, rfl, rfl, hs, dp, al, dep, q0, q1⟩ := h
  obtain ⟨its, rv, hl, _⟩ := I.list hs
  rw [Vals.ref1 r]
  obtain ⟨w1, rfl, rw1⟩ := vals1 rz
  obtain ⟨as, rd⟩ := Dp.readsAll I ds vs its dp rv
  have hun := hr.units
  refine min_list_default (vs := its.toArray) (I.ok.hd hc) hl.isList (by simpa using rd) al (by omega) (fun e h' tk hk => ⟨z, H, I.kept hk, rw1, q0 e⟩) (fun y ys i v h' tk bs e hv rr hk => ?_)
  have hv' : its[i]? = some v := by simpa using hv
  obtain ⟨d, bs', hd, rd'⟩ := readsAll_ix rd i v hv'
  have hi : i < vs.length := by rw [rv.length]; exact (List.getElem?_eq_some_iff.mp hv').1
  obtain ⟨u, hu, ru⟩ := rv.get (List.getElem?_eq_getElem hi)
  rw [hv'] at hu; cases hu
  have hm : minD y ys ∈ ds := by rw [e]; exact minD_mem _ _ _
  have hdm : d ∈ ds := List.mem_of_getElem? hd
  have ed : d = minD y ys := same_read (reads_keeps hk rd') rr (al.1 _ hdm _ hm)
  exact ⟨_, H, I.kept hk, ru, q1 y ys i _ e (List.getElem?_eq_getElem hi) (by rw [hd, ed])⟩
@[irreducible] def onMin (xs : List PyData) (z : PyData) (k : PyData → Prop) : Prop := (AlikeAll xs ∧ noDs xs = true) ∧ PyData.depthAll xs ≤ 60 ∧ (xs = [] → k z) ∧ ∀ y ys, xs = y :: ys → k (minD y ys)
@[reducible] def tMnD (te td : TEp) : TEp := fun ρ S R => te ρ S fun x S1 => td ρ S1 fun z S2 => match vw S2 x, z with
  | some (.list xs), .d y => onMin xs y fun r => R (.d r) S2
  | _, _ => False
theorem w_minDf (he : WE X e te) (hd : WE X a td) {ce : Expr} (hl : ∀ t t', PE X e t → PE X a t' → PE X ce (tCKw (rMinDf X.K) (tCons t tNil) (tCons t' tNil))) : WE X ce (tMnD te td) := by
  refine ⟨fun c => pe_w (hl _ _ (he.pe c) (hd.pe c)) fun σ H Q ⟨μ, ρ, S, R, f, h, q⟩ => ?_⟩
  refine ⟨μ, ρ, S, _, f, h, fun x S1 h1 μ1 v1 H1 p1 f1 r1 g1 => ⟨μ1, ρ, S1, _, f1, h1, fun z S2 h2 μ2 v2 H2 p2 f2 r2 g2 => ?_⟩⟩
  split at h2
  · rename_i xs y e1
    unfold onMin at h2
    obtain ⟨⟨h3, h3'⟩, h4, h5, h6⟩ := h2
    obtain ⟨l, vs, rfl, s, rr⟩ := vw_rep f2 (r1.mono g2 p2) e1
    refine ⟨l, vs, xs, v2, rfl, rfl, s.seq, dps_of h3' rr, h3, h4, fun ez => q _ S2 (h5 ez) μ2 v2 H2 (p1.trans p2) f2 r2 (g1.trans g2), fun w ws i v ez hv hm => ?_⟩
    exact q _ S2 (h6 w ws ez) μ2 v H2 (p1.trans p2) f2 (rr.at hm hv) (g1.trans g2)
  · exact h2.elim
theorem alike_ints (ns : List Int) : AlikeAll (ns.map PyData.int) := ⟨fun x hx y hy => by
  obtain ⟨i, _, rfl⟩ := List.mem_map.mp hx
  obtain ⟨j, _, rfl⟩ := List.mem_map.mp hy
  rfl, fun x hx => by
  obtain ⟨i, _, rfl⟩ := List.mem_map.mp hx
  exact fun z => nomatch z⟩
theorem depth_ints : ∀ ns : List Int, PyData.depthAll (ns.map PyData.int) = 0
  | [] => rfl
  | n :: ns => by rw [List.map_cons, PyData.depthAll, depth_ints ns]; rfl
theorem foldl_min : ∀ (ns : List Int) (n : Int), (ns.foldl min n ∈ n :: ns) ∧ ∀ y ∈ n :: ns, ns.foldl min n ≤ y
  | [], n => ⟨by simp, fun y hy => by simp at hy; subst hy; exact Int.le_refl _⟩
  | m :: ms, n => by
    obtain ⟨h1, h2⟩ := foldl_min ms (min n m)
    rw [List.foldl_cons]
    refine ⟨?_, fun y hy => ?_⟩
    · rw [List.mem_cons] at h1
      rcases h1 with h | h
      · rw [h]; have : min n m = n ∨ min n m = m := by omega
        rcases this with z | z <;> simp [z]
      · simp [h]
    · have h3 := h2 (min n m) (by simp)
      simp only [List.mem_cons] at hy
      rcases hy with rfl | rfl | hy
      · omega
      · omega
      · exact h2 y (by simp [hy])
theorem noDs_ints : ∀ ns : List Int, noDs (ns.map PyData.int) = true
  | [] => rfl
  | _ :: ns => by
    have := noDs_ints ns
    simp only [List.map_cons, noDs, this]; rfl
/-- the least of ints, or the default -/
theorem min_ints {ns : List Int} {z : PyData} {k : PyData → Prop} (h0 : ns = [] → k z) (h1 : ∀ m, m ∈ ns → (∀ y ∈ ns, m ≤ y) → k (.int m)) : onMin (ns.map PyData.int) z k := by
  unfold onMin
  refine ⟨⟨alike_ints ns, noDs_ints ns⟩, by rw [depth_ints]; omega, fun e => h0 (by simpa using e), fun y ys e => ?_⟩
  cases ns with
  | nil => simp at e
  | cons n ns =>
    rw [List.map_cons] at e
    injection e with e1 e2
    subst e1; subst e2
    rw [minD_ints]
    obtain ⟨h2, h3⟩ := foldl_min ns n
    exact h1 _ h2 h3
/-! ### repr of any data -/
structure OnRepr (d : PyData) (p : Prop) : Prop where
  ok : RpOk d
  dep : d.depth ≤ 60
  sz : bndD d ≤ sizeLine
  yes : p
def rReprA (K : PySem.W.Frag) : List V → Hp → VK → Prop := fun xs H Q => rReprI K xs H Q ∨ (xs = [.non] ∧ Q (.str "None") H) ∨ (∃ b, xs = [V.bl b] ∧ Q (.str (if b then "True" else "False")) H) ∨ ∃ z, xs = [V.str z] ∧ (reprText z).length ≤ sizeLine ∧ Q (.str (reprText z)) H
theorem call_reprA (hg : X.A.guards = some []) (hr : Room k X.A) : CallR X (.builtin "repr") (rReprA X.K) := by
  refine (call_reprI hg hr).or (CallR.or ?_ (CallR.or ?_ ?_))
  · intro pins s σ H xs us Q I r h
    obtain ⟨rfl, q⟩ := h
    obtain ⟨u, rfl, ru⟩ := vals1 r
    obtain rfl : u = Value.none := ru
    exact PySem.P.repr_of_none ⟨.str _, H, I.tok _, ⟨_, rfl⟩, q⟩
  · intro pins s σ H xs us Q I r h
    obtain ⟨b, rfl, q⟩ := h
    obtain ⟨u, rfl, ru⟩ := vals1 r
    obtain rfl : u = Value.bool b := ru
    refine PySem.P.repr_of_bool ⟨.str _, H, I.tok _, ⟨s.toks, ?_⟩, q⟩
    cases b <;> rfl
  · intro pins s σ H xs us Q I r h
    obtain ⟨z, rfl, hz, q⟩ := h
    obtain ⟨u, rfl, t, rfl⟩ := vals1 r
    exact PySem.P.repr_of_str ⟨.str _, H, I.tok _, ⟨_, rfl⟩, q⟩ hz
@[reducible] def aReprA : OpA := fun ds k => match ds with
  | [d] => OnRepr d (k (.str d.shown))
  | _ => False
theorem ok_reprA : OpaOk K (rReprA K) aReprA := by
  intro H ds vs k Q r h q
  unfold aReprA at h
  split at h
  · rename_i d
    obtain ⟨h1, h2, h3, h⟩ := h
    have r0 := r
    cases r with
    | cons r t =>
      cases t
      cases d with
      | list xs => exact .inl (.inl (ok_repr H _ _ k Q r0 ⟨⟨h1, h2, h3⟩, h⟩ q))
      | tuple xs => exact .inl (.inl (ok_repr H _ _ k Q r0 ⟨⟨h1, h2, h3⟩, h⟩ q))
      | int i => exact .inl (ok_reprI H _ _ k Q r0 ⟨h1, h⟩ q)
      | none => exact .inr (.inl ⟨by rw [show _ = V.non from r], q.val _ _ H h (by simp only [PyData.shown]; rfl) (.refl _)⟩)
      | bool b => exact .inr (.inr (.inl ⟨b, by rw [show _ = V.bl b from r], q.val _ _ H h (by simp only [PyData.shown]; cases b <;> rfl) (.refl _)⟩))
      | str z => exact .inr (.inr (.inr ⟨z, by rw [show _ = V.str z from r], h3, q.val _ _ H h (by simp only [PyData.shown]; rfl) (.refl _)⟩))
      | dict _ => exact h1.elim
  · exact h.elim
/-- data whose text is not too long: b letters, d deep -/
structure Shw (b n : Nat) (d : PyData) : Prop where
  ok : RpOk d
  dep : d.depth ≤ n
  sz : bndD d ≤ b
theorem Shw.up {b n b' n' : Nat} {d : PyData} (h : Shw b n d) (hb : b ≤ b') (hn : n ≤ n') : Shw b' n' d := ⟨h.ok, Nat.le_trans h.dep hn, Nat.le_trans h.sz hb⟩
theorem Shw.on {b n : Nat} {d : PyData} {p : Prop} (h : Shw b n d) (hp : p) (hn : n ≤ 60 := by decide) (hb : b ≤ sizeLine := by decide) : OnRepr d p := ⟨h.ok, Nat.le_trans h.dep hn, Nat.le_trans h.sz hb, hp⟩
theorem shw_int {n : Nat} {i : Int} {m : Nat} (h : i.natAbs < 2 ^ m) (hm : m ≤ 1919 := by decide) : Shw 2000 n (.int i) := by
  refine ⟨?_, Nat.zero_le _, Nat.le_refl _⟩
  show i.natAbs.log2 < 1920
  by_cases h0 : i.natAbs = 0
  · rw [h0]; decide
  · exact Nat.lt_of_lt_of_le ((Nat.log2_lt h0).mpr h) (by omega)
theorem shw_none {b n : Nat} (h : 4 ≤ b := by decide) : Shw b n .none := ⟨trivial, Nat.zero_le _, h⟩
theorem shw_bool {n : Nat} (c : Bool) {b : Nat} (h : 5 ≤ b := by decide) : Shw b n (.bool c) := ⟨trivial, Nat.zero_le _, h⟩
theorem shw_str {n : Nat} (z : Str) {b : Nat} (h : (reprText z).length ≤ b := by decide) : Shw b n (.str z) := ⟨trivial, Nat.zero_le _, h⟩
theorem shw_all {b n : Nat} : ∀ {xs : List PyData}, (∀ x ∈ xs, Shw b n x) → RpsOk xs ∧ PyData.depthAll xs ≤ n ∧ bndsD xs ≤ xs.length * (b + 2)
  | [], _ => ⟨trivial, Nat.zero_le _, Nat.zero_le _⟩
  | x :: xs, h => by
    obtain ⟨h1, h2, h3⟩ := h x (by simp)
    obtain ⟨g1, g2, g3⟩ := shw_all (xs := xs) fun y hy => h y (by simp [hy])
    refine ⟨⟨h1, g1⟩, ?_, ?_⟩
    · rw [PyData.depthAll]; omega
    · rw [bndsD, List.length_cons, Nat.add_mul]; omega
theorem shw_list {b n m : Nat} {xs : List PyData} (h : ∀ x ∈ xs, Shw b n x) (hl : xs.length ≤ m) : Shw (m * (b + 2) + 2) (n + 1) (.list xs) := by
  obtain ⟨g1, g2, g3⟩ := shw_all h
  refine ⟨g1, ?_, ?_⟩
  · rw [PyData.depth]; omega
  · have := Nat.mul_le_mul_right (b + 2) hl
    rw [bndD]; omega
theorem shw_tup {b n m : Nat} {xs : List PyData} (h : ∀ x ∈ xs, Shw b n x) (hl : xs.length ≤ m) : Shw (m * (b + 2) + 3) (n + 1) (.tuple xs) := by
  obtain ⟨g1, g2, g3⟩ := shw_all h
  refine ⟨g1, ?_, ?_⟩
  · rw [PyData.depth]; omega
  · have := Nat.mul_le_mul_right (b + 2) hl
    rw [bndD]; omega
end
end Pu

set_option autoImplicit false
namespace Pu
open PySem PySem.Spec PyProof.Rows L2
open PySem.W (alike alike_unique AlikeAll minD maxD min_list_default max_list_default minD_ints reads_keeps dataLt)
section
variable {X : Cx} {K : PySem.W.Frag} {a b e : Expr} {ta tb te td : TEp} {pos : Pos} {k n : Nat} {x : Str} {p : Pos} {es : List Expr} {t : TAp}
/-! ### a module's constants -/
def Cst (K : PySem.W.Frag) (mg : Str → Option Value) (x : Str) (d : PyData) : Prop := ∃ v u, mg x = some u ∧ RelV v u ∧ ∀ H, Rep K H d v
theorem cst_int {mg : Str → Option Value} {i : Int} {t : Tok} (h : mg x = some (.int i t)) : Cst K mg x (.int i) := ⟨.int i, _, h, ⟨t, rfl⟩, fun _ => rfl⟩
theorem cst_str {mg : Str → Option Value} {z : Str} {t : Tok} (h : mg x = some (.str z t)) : Cst K mg x (.str z) := ⟨.str z, _, h, ⟨t, rfl⟩, fun _ => rfl⟩
theorem cst_pair {mg : Str → Option Value} {r : Addr} {i j : Int} {s t : Tok} {dd : Option Addr} {n : Nat} {sl : Array (Option Value)} (h : mg x = some (.ref r)) (l : K.lookup r = some ⟨.type "tuple", dd, .seq #[.int i s, .int j t] n, sl⟩) : Cst K mg x (.tuple [.int i, .int j]) :=
  ⟨.ref r, _, h, rfl, fun H => ⟨r, [.int i, .int j], rfl, .inr ⟨_, _, _, l, rfl, rfl, (show 2 ≤ sizeLine by decide), .cons ⟨s, rfl⟩ (.cons ⟨t, rfl⟩ .nil)⟩, ⟨_, _, rfl, rfl, _, _, rfl, rfl, rfl⟩⟩⟩
theorem cst_text {mg : Str → Option Value} {r : Addr} {z : Str} {s : Tok} {dd : Option Addr} {n : Nat} {sl : Array (Option Value)} (h : mg x = some (.ref r)) (l : K.lookup r = some ⟨.type "tuple", dd, .seq #[.str z s] n, sl⟩) : Cst K mg x (.tuple [.str z]) :=
  ⟨.ref r, _, h, rfl, fun H => ⟨r, [.str z], rfl, .inr ⟨_, _, _, l, rfl, rfl, (show 1 ≤ sizeLine by decide), .cons ⟨s, rfl⟩ .nil⟩, ⟨_, _, rfl, rfl, rfl⟩⟩⟩
theorem w_cst {d : PyData} (h : Cst X.K X.mg x d) (hg : Gl X x) (hd : (x == ("__debug__" : Str)) = false := by decide) : WE X (.Name x pos) (tCo d) := by
  obtain ⟨v, u, hm, r, rep⟩ := h
  exact w_co (pe_glob hg hm r hd) rep
/-! ### a statement that is not reached -/
@[reducible] def tNever : TSp := fun _ _ _ => False
theorem ws_never {st : Stmt} : WS X st tNever := ⟨fun c => ⟨fun _ _ _ _ _ _ ⟨_, _, _, _, _, h, _⟩ => h.elim⟩⟩
/-! ### tuple(xs) -/
@[reducible] def aTup : OpA := fun ds k => match ds with
  | [.list xs] => k (.tuple xs)
  | [.tuple xs] => k (.tuple xs)
  | _ => False
theorem ok_tup : OpaOk K (fun xs H Q => ∃ p ys, xs = [V.ref p] ∧ ((SqL K H p ys ∧ ∀ l, H l = none → Q (.ref l) (upd H l (.tup ys))) ∨ (SqT K H p ys ∧ Q (.ref p) H))) aTup := by
  intro H ds vs k Q r h q
  unfold aTup at h
  split at h
  · rename_i xs
    cases r with
    | cons r t =>
      cases t
      obtain ⟨l, us, rfl, s, rr⟩ := r
      exact ⟨l, us, rfl, .inl ⟨s.seq, fun p hp => q.val _ _ _ h ⟨p, us, rfl, .of upd_same, Reps.mono (.new hp) _ _ rr⟩ (same_new hp)⟩⟩
  · rename_i xs
    cases r with
    | cons r t =>
      cases t
      obtain ⟨l, us, rfl, s, rr⟩ := r
      exact ⟨l, us, rfl, .inr ⟨s, q.val _ _ _ h ⟨l, us, rfl, s, rr⟩ (.refl _)⟩⟩
  · exact h.elim
/-! ### xs.extend(a new list) -/
@[reducible] def tExt (i : Nat) (t : TNp) : TEp := fun ρ S R => match sltAt ρ i with
  | some (.cel j) => match cellAt S j with
    | some (.lst _) => t ρ S fun zs S2 => match cellAt S2 j with
      | some (.lst xs) => xs.length + zs.length ≤ sizeLine ∧ R (.d .none) (setS S2 j (.lst (xs ++ zs)))
      | _ => False
    | _ => False
  | _ => False
theorem w_extend {i : Nat} {o a : Expr} {ta : TNp} {apos cpos : Pos} (ha : WN X a ta) (hp : ∀ t, PE X a t → PE X (.Call (.Attribute o "extend" apos) [a] [] cpos) (tBM X.K "list" rExtend (tVar i) (tCons t tNil))) :
    WE X (.Call (.Attribute o "extend" apos) [a] [] cpos) (tExt i ta) := by
  refine ⟨fun c => pe_w (hp _ (ha.pe c)) fun σ H Q ⟨μ, ρ, S, R, f, h, q⟩ => ?_⟩
  unfold tExt at h
  split at h
  · rename_i j e0
    obtain ⟨v1, hv, a, ha, rfl⟩ := f.slot (sltAt_get e0)
    split at h
    · rename_i xs0 e1
      rw [cellAt_get] at e1
      obtain ⟨a', ha', vs, e3, rr⟩ := f.at e1
      rw [ha] at ha'; cases ha'
      refine ⟨_, hv, .inl ⟨rfl, _, .of e3⟩, μ, ρ, S, _, f, h, fun zs S2 h2 μ2 p2' ws H2 p2 f2 hp2 np no r2 g2 => ?_⟩
      rw [cellAt_get] at h2
      split at h2
      · rename_i ys e4
        obtain ⟨hz, h2⟩ := h2
        obtain ⟨a', ha', us, e5, rr2⟩ := f2.at e4
        have ha3 := p2.get ha
        rw [ha3] at ha'; cases ha'
        obtain ⟨f4, g4⟩ := f2.write (o := .lst (us ++ ws)) (y := .lst (ys ++ zs)) e4 ha3 ⟨_, upd_same, Reps.mono (.put e5) _ _ (rr2.append r2)⟩
        refine ⟨a, p2', us, ws, rfl, rfl, e5, hp2, by rw [← rr2.length, ← r2.length]; exact hz, ?_⟩
        exact q (.d .none) _ h2 μ2 .non _ p2 f4 rfl (g2.trans g4)
      · exact h2.elim
    · exact h.elim
  · exact h.elim
/-! ### xs[i] = e at any place -/
structure OnPut (n : Nat) (i : Int) (k : Nat → Prop) : Prop where
  put : ∃ m, ixN n i = some m ∧ k m
theorem put_last {n : Nat} {k : Nat → Prop} (h0 : 0 < n) (h : k (n - 1)) : OnPut n (-1) k := ⟨n - 1, by
  unfold ixN
  rw [if_neg (by decide), if_pos (by omega)]; congr 1; omega, h⟩
theorem put_at {n : Nat} {i : Int} {k : Nat → Prop} (h0 : 0 ≤ i) (h1 : i < n) (h : k i.toNat) : OnPut n i k := ⟨i.toNat, by
  unfold ixN
  rw [if_pos h0, if_pos h1], h⟩
@[reducible] def tSbJ (to ti te : TEp) : TSp := fun E ρ S => te ρ S fun v S1 => to ρ S1 fun o S2 => ti ρ S2 fun i S3 => match o, i, v with
  | .cel j, .d (.int k), .d y => match cellAt S3 j with
    | some (.lst xs) => OnPut xs.length k fun m => E.nx ρ (setS S3 j (.lst (xs.set m y)))
    | _ => False
  | _, _, _ => False
theorem ws_subJ {o i e : Expr} {to ti te : TEp} {pos2 : Pos} (ho : WE X o to) (hi : WE X i ti) (he : WE X e te)
    (ha : ∀ v, assign (.Subscript o i pos2) X.env v = (do
      let ov ← holding [v] (eval o X.env)
      let iv ← holding [v, ov] (eval i X.env)
      standAt pos2
      holding [v, ov, iv] (setItem ov iv v)
      release [v, ov, iv] []) := by intro _; rfl)
    (hs : swapsWithSole [.Subscript o i pos2] e pos.line X.env = pure false := by rfl) (hw : swappedStores [.Subscript o i pos2] e X.env = pure none := by rfl) : WS X (.Assign [.Subscript o i pos2] e pos) (tSbJ to ti te) := by
  refine ⟨fun c => ps_w (ps_asg (he.pe c) (pg_sub (ho.pe c) (hi.pe c) set_list ha) hs hw) fun D σ H ⟨μ, ρ, S, E, f, h, q⟩ => ?_⟩
  refine ⟨μ, ρ, S, _, f, h, fun v S1 h1 μ1 v1 H1 p1 f1 r1 g1 => ⟨μ1, ρ, S1, _, f1, h1, fun ov S2 h2 μ2 v2 H2 p2 f2 r2 g2 => ⟨μ2, ρ, S2, _, f2, h2, fun iv S3 h3 μ3 v3 H3 p3 f3 r3 g3 => ?_⟩⟩⟩
  split at h3
  · rename_i j k y
    obtain ⟨a, ha, rfl⟩ := r2
    rw [cellAt_get] at h3
    split at h3
    · rename_i xs e1
      obtain ⟨m, e2, h3⟩ := h3.put
      obtain ⟨a', ha', vs, e3, rr⟩ := f3.at e1
      have ha3 := p3.get ha
      rw [ha3] at ha'; cases ha'
      have r1' : Rep X.K H3 y v1 := Rep.mono (g2.trans g3) _ _ r1
      obtain ⟨f4, g4⟩ := f3.write (o := .lst (vs.set m v1)) (y := .lst (xs.set m y)) e1 ha3 ⟨_, upd_same, Reps.mono (.put e3) _ _ (Reps.set r1' m rr)⟩
      exact ⟨a, vs, k, m, rfl, r3, e3, by rw [← rr.length]; exact e2, q.nx _ _ h3 μ3 σ _ (p1.trans (p2.trans p3)) f4 (g1.trans (g2.trans (g3.trans g4)))⟩
    · exact h3.elim
  · exact h3.elim
/-! ### in -/
def flatD : PyData → Bool
  | .none => true
  | .bool _ => true
  | .int _ => true
  | .str _ => true
  | _ => false
def flatVD : PyData → V
  | .none => .non
  | .bool c => .bl c
  | .int i => .int i
  | .str z => .str z
  | _ => .non
theorem flat_rep {H : Hp} : ∀ {d : PyData} {v : V}, flatD d = true → RepR K H d v → v = flatVD d ∧ flatV v = true
  | .none, _, _, r => by rw [show _ = V.non from r]; exact ⟨rfl, rfl⟩
  | .bool c, _, _, r => by rw [show _ = V.bl c from r]; exact ⟨rfl, rfl⟩
  | .int i, _, _, r => by rw [show _ = V.int i from r]; exact ⟨rfl, rfl⟩
  | .str z, _, _, r => by rw [show _ = V.str z from r]; exact ⟨rfl, rfl⟩
theorem flats_rep {H : Hp} : ∀ {ds : List PyData} {vs : List V}, ds.all flatD = true → Reps K H ds vs → vs = ds.map flatVD ∧ vs.all flatV = true
  | [], _, _, r => by rw [show _ = [] from r]; exact ⟨rfl, rfl⟩
  | d :: ds, _, h, ⟨v, ws, e, r, t⟩ => by
    rw [List.all_cons, Bool.and_eq_true] at h
    obtain ⟨e1, f1⟩ := flat_rep h.1 (Rep.read r)
    obtain ⟨e2, f2⟩ := flats_rep h.2 t
    subst e
    exact ⟨by rw [e1, e2]; rfl, by rw [List.all_cons, f1, f2]; rfl⟩
def inD' (d : PyData) (ds : List PyData) : Bool := ds.any fun y => eqV (flatVD y) (flatVD d)
theorem inV_D (d : PyData) (ds : List PyData) : inV (flatVD d) (ds.map flatVD) = inD' d ds := by
  unfold inV inD'
  rw [List.any_map]; rfl
structure OnIn (d : PyData) (ds : List PyData) (p : Prop) : Prop where
  fd : flatD d = true
  fs : ds.all flatD = true
  yes : p
@[reducible] def dIn (f : Bool → Bool) : OpD := fun a b k => match b with
  | .list ys => OnIn a ys (k (.bool (f (inD' a ys))))
  | .tuple ys => OnIn a ys (k (.bool (f (inD' a ys))))
  | _ => False
theorem ok_in : OpdOk K (rIn K false) (dIn id) := by
  intro H a b va vb k Q ra rb h q
  unfold dIn at h
  split at h
  · rename_i ys
    obtain ⟨fd, fs, h⟩ := h
    obtain ⟨l, us, rfl, s, rr⟩ := rb
    obtain ⟨e1, f1⟩ := flat_rep fd ra
    obtain ⟨e2, f2⟩ := flats_rep fs rr
    refine ⟨l, us, rfl, .inl s.seq, f1, f2, ?_⟩
    rw [e1, e2, inV_D]
    exact q.val _ _ H h rfl (.refl _)
  · rename_i ys
    obtain ⟨fd, fs, h⟩ := h
    obtain ⟨l, us, rfl, s, rr⟩ := rb
    obtain ⟨e1, f1⟩ := flat_rep fd ra
    obtain ⟨e2, f2⟩ := flats_rep fs rr
    refine ⟨l, us, rfl, .inr s, f1, f2, ?_⟩
    rw [e1, e2, inV_D]
    exact q.val _ _ H h rfl (.refl _)
  · exact h.elim
theorem ok_notIn : OpdOk K (rIn K true) (dIn bnot) := by
  intro H a b va vb k Q ra rb h q
  unfold dIn at h
  simp only [bnot_eq] at h
  split at h
  · rename_i ys
    obtain ⟨fd, fs, h⟩ := h
    obtain ⟨l, us, rfl, s, rr⟩ := rb
    obtain ⟨e1, f1⟩ := flat_rep fd ra
    obtain ⟨e2, f2⟩ := flats_rep fs rr
    refine ⟨l, us, rfl, .inl s.seq, f1, f2, ?_⟩
    rw [e1, e2, inV_D]
    exact q.val _ _ H h rfl (.refl _)
  · rename_i ys
    obtain ⟨fd, fs, h⟩ := h
    obtain ⟨l, us, rfl, s, rr⟩ := rb
    obtain ⟨e1, f1⟩ := flat_rep fd ra
    obtain ⟨e2, f2⟩ := flats_rep fs rr
    refine ⟨l, us, rfl, .inr s, f1, f2, ?_⟩
    rw [e1, e2, inV_D]
    exact q.val _ _ H h rfl (.refl _)
  · exact h.elim
theorem m_in {f : Bool} : R2m (rIn K f) := fun _ _ _ _ _ h ⟨p, xs, a, b, c, d, q⟩ => ⟨p, xs, a, b, c, d, h _ _ q⟩
theorem w_in (hk : Room k X.A) (ha : WE X a ta) (hb : WE X b tb) (hm : behindInMarks .In b = false := by rfl) : WE X (.Compare a [.In] [b] pos) (tBin (dIn id) ta tb) := w_cmp op_in_seq ok_in ha hb hm
theorem w_notIn (hk : Room k X.A) (ha : WE X a ta) (hb : WE X b tb) (hm : behindInMarks .NotIn b = false := by rfl) : WE X (.Compare a [.NotIn] [b] pos) (tBin (dIn bnot) ta tb) := w_cmp op_notIn_seq ok_notIn ha hb hm
theorem wt_in (hk : Room k X.A) (ha : WE X a ta) (hb : WE X b tb) (hm : behindInMarks .In b = false := by rfl) : WT X (.Compare a [.In] [b] pos) (tTst (tBin (dIn id) ta tb)) := w_tcmp op_in_seq ok_in m_in ha hb hm
theorem wt_notIn (hk : Room k X.A) (ha : WE X a ta) (hb : WE X b tb) (hm : behindInMarks .NotIn b = false := by rfl) : WT X (.Compare a [.NotIn] [b] pos) (tTst (tBin (dIn bnot) ta tb)) := w_tcmp op_notIn_seq ok_notIn m_in ha hb hm
/-- an int among ints -/
theorem in_ints (i : Int) (ns : List Int) : inD' (.int i) (ns.map PyData.int) = decide (i ∈ ns) := by
  unfold inD'
  rw [List.any_map]
  by_cases h : i ∈ ns
  · rw [decide_eq_true h, List.any_eq_true]
    exact ⟨i, h, by show (i == i) = true; simp⟩
  · rw [decide_eq_false h, List.any_eq_false]
    intro j hj z
    have z' : (j == i) = true := z
    rw [beq_iff_eq] at z'
    subst z'; exact h hj
theorem flat_ints : ∀ ns : List Int, (ns.map PyData.int).all flatD = true
  | [] => rfl
  | n :: ns => by rw [List.map_cons, List.all_cons, flat_ints ns]; rfl
theorem on_in {i : Int} {ns : List Int} {p : Prop} (h : p) : OnIn (.int i) (ns.map PyData.int) p := ⟨rfl, flat_ints ns, h⟩
/-! ### a def that changes its first argument and hands back a new list -/
abbrev MFnN := List PyData → List PyData → (List PyData → List PyData → Prop) → Prop
def mutN (g : MFnN) : PSp := fun args S R => ∃ xs ds R0, args = .cel 0 :: dA ds ∧ S = [.lst xs] ∧ g xs ds R0 ∧ ∀ rs ys, R0 rs ys → ∀ i S', cellAt S' i = some (.lst rs) → R (.cel (i + 1)) (.lst ys :: S')
@[reducible] def tClMN (g : MFnN) (ta : TAp) : TNp := fun ρ S R => ta ρ S fun pvs S1 => match pvs with
  | .cel i :: rest => match cellAt S1 i, dsP rest with
    | some (.lst xs), some ds => g xs ds fun rs ys => R rs (setS S1 i (.lst ys))
    | _, _ => False
  | _ => False
theorem callMN_up {g : MFnN} {c : FP} {σ : L2.St} {H : Hp} {Q : VK} (h : upN X.K c (tClMN g t) σ H Q) : tCall (upF X.K (mutN g)) [] E0 (upA X.K c n t) σ H Q := by
  obtain ⟨μ, ρ, S, R, f, h, q⟩ := h
  refine ⟨μ, ρ, S, _, f, h, fun pvs S1 h1 hl μ1 vs H1 p1 f1 r1 g1 => ?_⟩
  split at h1
  · rename_i i rest
    cases r1 with
    | cons ri r1 =>
      obtain ⟨a, ha, rfl⟩ := ri
      split at h1
      · rename_i xs ds e1 e2
        rw [cellAt_get] at e1
        obtain ⟨a', ha', cr⟩ := f1.at e1
        rw [ha] at ha'; cases ha'
        obtain ⟨rr, _⟩ := dsP_rep r1 e2
        refine ⟨[a], .cel 0 :: dA ds, [.lst xs], fun pv S' => ∃ rs ys i' S2, pv = .cel (i' + 1) ∧ S' = .lst ys :: S2 ∧ cellAt S2 i' = some (.lst rs) ∧ R rs (setS S1 i (.lst ys)), ?_, .cons cr .nil, by simp, ⟨xs, ds, _, rfl, rfl, h1, fun rs ys hr i' S' e => ⟨rs, ys, i', S', rfl, rfl, e, hr⟩⟩, fun pv S' hR μ' v H' p' rc nd' own rp gg same => ?_⟩
        · rw [List.append_nil]; exact .cons ⟨a, rfl, rfl⟩ (pairedD rr)
        · obtain ⟨rs, ys, i', S2, rfl, rfl, e3, hR⟩ := hR
          obtain ⟨rest', rfl⟩ := p'
          cases rc with
          | cons c0 rc =>
            obtain ⟨d, hd, rfl⟩ := rp
            have hd' : rest'[i']? = some d := by simpa using hd
            rw [cellAt_get] at e3
            obtain ⟨d', e4, us, e5, r5⟩ := paired_get rc e3
            have e4' : rest'[i']? = some d' := e4
            rw [hd'] at e4'; cases e4'
            have od := own d (by simp [List.mem_of_getElem? hd'])
            have f2 := f1.put ha (fun b o e hb => same b o e (by simpa using hb)) gg c0
            have hda : d ≠ a := fun z => by
              subst z
              have nd2 : (d :: rest').Nodup := nd'
              exact (List.nodup_cons.mp nd2).1 (List.mem_of_getElem? hd')
            have hdn : H1 d = none := by
              rcases od with z | z
              · exact absurd (by simpa using z) hda
              · exact z
            exact q rs _ hR μ1 d us H' p1 f2 e5 (f1.notIn hdn) (f1.noH0 hdn) r5 (g1.trans gg)
      · exact h1.elim
  · exact h1.elim
theorem w_callMN {g : MFnN} {f : Addr} {fd : FuncData} {ps : List Str} (F : FnOkG X.prog X.w X.K X.mg X.base k f fd ps (upF X.K (mutN g))) (hr : Room k X.A) (hgs : X.A.guards = some []) (hg : Gl X x) (hm : X.mg x = some (.ref f)) (hk : PySem.W.keepIn X.K (.ref f) = true) (hb : Binds X.K fd ps [])
    (ha : WA X (e :: es) n t) (hdb : (x == ("__debug__" : Str)) = false := by decide) (he : starEach (e :: es) X.env = (false, eval e X.env) :: starEach es X.env := by rfl) (hpl : (backTo pos (starEach es X.env)).any (·.1) = false := by rfl) :
    WN X (.Call (.Name x p) (e :: es) [] pos) (tClMN g t) :=
  ⟨fun c => pe_w (pe_callG F hr hgs hg hm hk hb .nil (ha.pa c) hdb he hpl) fun _ _ _ h => callMN_up h⟩
/-! ### xs[::-1] -/
@[reducible] def tRvN (te : TEp) : TNp := fun ρ S R => te ρ S fun x S1 => match vw S1 x with
  | some (.list xs) => R xs.reverse S1
  | _ => False
theorem wn_rev {k1 : Nat} {p1 p2 p3 : Pos} (he : WE X e te) : WN X (.Subscript e (.Slice none none (some (.UnaryOp .USub (.Constant (.int 1) k1 p1) p2)) p3) pos) (tRvN te) := by
  refine ⟨fun c => pe_w (pe_revL (he.pe c)) fun σ H Q ⟨μ, ρ, S, R, f, h, q⟩ => ?_⟩
  refine ⟨μ, ρ, S, _, f, h, fun x S1 h1 μ1 v1 H1 p1 f1 r1 g1 => ?_⟩
  split at h1
  · rename_i xs e3
    obtain ⟨l, us, rfl, s, rr⟩ := vw_rep f1 r1 e3
    exact ⟨l, us, rfl, s.seq, fun p hp => q _ S1 h1 μ1 p _ _ p1 (f1.same (same_new hp)) upd_same (f1.notIn hp) (f1.noH0 hp) (Reps.mono (.new hp) _ _ rr.reverse) (g1.trans (.new hp))⟩
  · exact h1.elim
/-! ### o.reverse() -/
@[reducible] def tRvs (i : Nat) : TEp := fun ρ S R => match sltAt ρ i with
  | some (.cel j) => match cellAt S j with
    | some (.lst xs) => R (.d .none) (setS S j (.lst xs.reverse))
    | _ => False
  | _ => False
theorem w_reverse {i : Nat} {o : Expr} {apos cpos : Pos} (hp : PE X (.Call (.Attribute o "reverse" apos) [] [] cpos) (tBM0 X.K "list" rReverse (tVar i))) : WE X (.Call (.Attribute o "reverse" apos) [] [] cpos) (tRvs i) := by
  refine ⟨fun c => pe_w hp fun σ H Q ⟨μ, ρ, S, R, f, h, q⟩ => ?_⟩
  unfold tRvs at h
  split at h
  · rename_i j e0
    obtain ⟨v1, hv, a, ha, rfl⟩ := f.slot (sltAt_get e0)
    split at h
    · rename_i xs e1
      rw [cellAt_get] at e1
      obtain ⟨a', ha', vs, e3, rr⟩ := f.at e1
      rw [ha] at ha'; cases ha'
      obtain ⟨f4, g4⟩ := f.write (o := .lst vs.reverse) (y := .lst xs.reverse) e1 ha ⟨_, upd_same, Reps.mono (.put e3) _ _ rr.reverse⟩
      exact ⟨_, hv, .inl ⟨rfl, _, .of e3⟩, a, vs, rfl, rfl, e3, q (.d .none) _ h μ .non _ (.refl _) f4 rfl g4⟩
    · exact h.elim
  · exact h.elim
end
end Pu

set_option autoImplicit false
namespace Pu
open PySem PySem.Spec PyProof.Rows L2
section
variable {X : Cx} {k : Nat} {f : Addr} {fd : FuncData} {ps : List Str} {x : Str} {p pos : Pos}
theorem upA_nilQ {K : PySem.W.Frag} {c : FP} {σ : L2.St} {H : Hp} {Q : List V → Hp → Prop} (h : upA K c 0 tAnil σ H Q) : tNil σ H Q := by
  obtain ⟨μ, ρ, S, R, f, h, q⟩ := h
  exact q [] S h rfl μ [] H (.refl _) f .nil (.refl _)
theorem tcall_nil {K : PySem.W.Frag} {c : FP} {sp : Sp} {E : XK} {σ : L2.St} {H : Hp} {Q : VK} (h : tCall sp [] E (upA K c 0 tAnil) σ H Q) : tCall sp [] E tNil σ H Q := upA_nilQ h
/-- a def without parameters -/
theorem w_call0 {fn : PFn} (F : FnOkG X.prog X.w X.K X.mg X.base k f fd ps (upF X.K (pur fn))) (hr : Room k X.A) (hgs : X.A.guards = some []) (hg : Gl X x) (hm : X.mg x = some (.ref f)) (hk : PySem.W.keepIn X.K (.ref f) = true) (hb : Binds X.K fd ps []) (hdb : (x == ("__debug__" : Str)) = false := by decide) :
    WE X (.Call (.Name x p) [] [] pos) (tCl fn tAnil) :=
  ⟨fun c => pe_w (pe_callG0 F hr hgs hg hm hk hb .nil hdb) fun _ _ _ h => tcall_nil (call_up (n := 0) h)⟩
end
/-! ### sum(a tuple of ints) -/
section
variable {X : Cx} {K : PySem.W.Frag}
def rSumT (K : PySem.W.Frag) : List V → Hp → VK → Prop := fun vs H Q => ∃ (a : Addr) (ns : List Int), vs = [V.ref a] ∧ SqT K H a (ns.map V.int) ∧ Q (.int ns.sum) H
theorem cr_sumT (hc : X.calm = true) : CallR X (.builtin "sum") (rSumT X.K) := by
  intro pins s σ H vs us Q I r h
  obtain ⟨a, ns, rfl, hs, q⟩ := h
  obtain ⟨its, rv, hl, _⟩ := I.tuple hs
  rw [Vals.ref1 r]
  obtain ⟨xs, e⟩ := rv.ints.allInts.items
  have hn : numsOf (intItems xs).toList = ns := by rw [← e]; exact rv.ints.numsOf
  rw [nums_intItems] at hn
  rw [e] at hl
  refine PySem.W.ktm_sumG (I.ok.hd hc) hl fun h' tk t' hk => ?_
  rw [preSum_eq, List.take_of_length_le (by simp), hn]
  exact ⟨.int _, H, I.kept hk, ⟨_, rfl⟩, q⟩
@[reducible] def aSumT : OpA := fun ds k => match ds with
  | [.tuple xs] => match intsD xs with
    | some bs => k (.int bs.sum)
    | none => False
  | _ => False
theorem ok_sumT : OpaOk K (rSumT K) aSumT := by
  intro H ds vs k Q r h q
  unfold aSumT at h
  split at h
  · rename_i xs
    split at h
    · rename_i bs e
      cases r with
      | cons r t =>
        cases t
        obtain ⟨l, us, rfl, s, rr⟩ := r
        rw [intsD_eq e] at rr
        rw [Reps.ints rr] at s
        exact ⟨l, bs, rfl, s, q.val _ _ H h rfl (.refl _)⟩
    · exact h.elim
  · exact h.elim
end
end Pu

set_option autoImplicit false
namespace Pu
open PySem PySem.Spec PyProof.Rows L2
/-! ### comprehensions with two clauses -/
/-- any frame -/
def upIE (K : PySem.W.Frag) (ti : TIp) : TI := fun σ H Q => ∃ c μ ρ S R, Fr K c μ ρ S σ H ∧ ti ρ S R ∧
  (∀ items S1, R items S1 → ∀ μ1 H1 J, Pre μ μ1 → Fr K c μ1 ρ S1 σ H1 → Ge H H1 → ItIs K J items H1 → Q J H1)
section
variable {X : Cx} {pos : Pos}
theorem PI.anyF {tg iter : Expr} {ti : TIp} (h : WI X tg iter ti) : PI X tg iter (upIE X.K ti) := ⟨fun pins s σ H R I ⟨c, μ, ρ, S, Q', f, ht, q⟩ => by
  obtain ⟨wi, hp, hw⟩ := h.ex c
  exact hp.run pins s σ H R I (hw μ ρ S σ H Q' R f ht q)⟩
/-- the turns of the inner clause: what is gathered goes on from acc -/
def InB (g : TGp) (tt : TTp) (te : TEp) (vs : List Nat) (ρ : Rho) (items : List PyData) (acc0 : List PyData) (S1 : Sto) (J : List PyData → Sto → Prop) : Prop := ∃ I : Nat → List PyData → Sto → Prop, I 0 acc0 S1 ∧
  (∀ i d acc S, items[i]? = some d → I i acc S → g d (wipeP ρ vs) fun ρ2 => tt ρ2 S fun b S2 => Br b (te ρ2 S2 fun y S3 => match y with
    | .d y => acc.length < sizeLine ∧ I (i + 1) (acc ++ [y]) S3
    | .cel _ => False) (I (i + 1) acc S2)) ∧ ∀ acc S, I items.length acc S → J acc S
def LcB2 (g : TGp) (tt : TTp) (ti1 : TIp) (g1 : TGp) (tt1 : TTp) (te : TEp) (vs vs1 : List Nat) (ρ : Rho) (R : List PyData → Sto → Prop) (items : List PyData) (S1 : Sto) : Prop := ∃ I : Nat → List PyData → Sto → Prop, I 0 [] S1 ∧
  (∀ i d acc S, items[i]? = some d → I i acc S → g d (wipeP ρ vs) fun ρ2 => tt ρ2 S fun b S2 => Br b (ti1 ρ2 S2 fun its1 S3 => InB g1 tt1 te vs1 ρ2 its1 acc S3 (I (i + 1))) (I (i + 1) acc S2)) ∧ ∀ acc S, I items.length acc S → R acc S
@[reducible] def tLC2 (ti : TIp) (g : TGp) (tt : TTp) (ti1 : TIp) (g1 : TGp) (tt1 : TTp) (te : TEp) (vs vs1 : List Nat) : TNp := fun ρ S R => ti ρ S fun items S1 => LcB2 g tt ti1 g1 tt1 te vs vs1 ρ R items S1
/-- the inner clause: each element is told by a function of its item -/
theorem inb_map {g : TGp} {te : TEp} {vs : List Nat} {ρ : Rho} {J : List PyData → Sto → Prop} {items acc0 : List PyData} {S : Sto} (f : PyData → PyData) (hz : acc0.length + items.length ≤ sizeLine)
    (h : ∀ d ∈ items, ∀ k : PQ, k (.d (f d)) S → g d (wipeP ρ vs) fun ρ2 => te ρ2 S k) (hJ : J (acc0 ++ mapD f items) S) : InB g tYesP te vs ρ items acc0 S J := by
  refine ⟨fun i acc S' => acc = acc0 ++ (items.take i).map f ∧ S' = S, ⟨by simp, rfl⟩, ?_, ?_⟩
  · rintro i d _ _ hd ⟨rfl, rfl⟩
    refine h d (List.mem_of_getElem? hd) _ ⟨?_, ?_, rfl⟩
    · have := (List.getElem?_eq_some_iff.mp hd).1
      rw [List.length_append, List.length_map, List.length_take]; omega
    · rw [List.take_add_one, hd]; simp
  · rintro _ _ ⟨rfl, rfl⟩
    rw [List.take_length, ← mapD_eq]; exact hJ
theorem inb_filter {g : TGp} {tt : TTp} {te : TEp} {vs : List Nat} {ρ : Rho} {J : List PyData → Sto → Prop} {items acc0 : List PyData} {S : Sto} (p : PyData → Bool) (f : PyData → PyData) (hz : acc0.length + items.length ≤ sizeLine)
    (h : ∀ d ∈ items, ∀ (k : PQ) (k0 : Sto → Prop), (p d = true → k (.d (f d)) S) → (p d = false → k0 S) → g d (wipeP ρ vs) fun ρ2 => tt ρ2 S fun b S2 => Br b (te ρ2 S2 k) (k0 S2)) (hJ : J (acc0 ++ (items.filter p).map f) S) : InB g tt te vs ρ items acc0 S J := by
  refine ⟨fun i acc S' => acc = acc0 ++ ((items.take i).filter p).map f ∧ S' = S, ⟨by simp, rfl⟩, ?_, ?_⟩
  · rintro i d _ _ hd ⟨rfl, rfl⟩
    refine h d (List.mem_of_getElem? hd) _ (fun S2 => _) (fun hp => ⟨?_, ?_, rfl⟩) (fun hp => ⟨?_, rfl⟩)
    · have := (List.getElem?_eq_some_iff.mp hd).1
      have := List.length_filter_le p (items.take i)
      rw [List.length_take] at this
      rw [List.length_append, List.length_map]; omega
    · rw [List.take_add_one, hd]; simp [hp]
    · rw [List.take_add_one, hd]; simp [hp]
  · rintro _ _ ⟨rfl, rfl⟩
    rw [List.take_length]; exact hJ
/-- the outer clause: what each item gives is told by a function of it -/
theorem lcb2_map {g : TGp} {ti1 : TIp} {g1 : TGp} {tt1 : TTp} {te : TEp} {vs vs1 : List Nat} {ρ : Rho} {R : List PyData → Sto → Prop} {items : List PyData} {S : Sto} (F : PyData → List PyData) (hz : (items.flatMap F).length ≤ sizeLine)
    (h : ∀ d ∈ items, ∀ (acc : List PyData) (J : List PyData → Sto → Prop), acc.length + (F d).length ≤ sizeLine → J (acc ++ F d) S → g d (wipeP ρ vs) fun ρ2 => ti1 ρ2 S fun its1 S3 => InB g1 tt1 te vs1 ρ2 its1 acc S3 J) (hR : R (items.flatMap F) S) : LcB2 g tYesP ti1 g1 tt1 te vs vs1 ρ R items S := by
  refine ⟨fun i acc S' => acc = (items.take i).flatMap F ∧ S' = S, ⟨by simp, rfl⟩, ?_, ?_⟩
  · rintro i d _ _ hd ⟨rfl, rfl⟩
    have e : (items.take (i + 1)).flatMap F = (items.take i).flatMap F ++ F d := by rw [List.take_add_one, hd, List.flatMap_append]; simp
    refine h d (List.mem_of_getElem? hd) _ _ ?_ ⟨e.symm, rfl⟩
    rw [← List.length_append, ← e]
    have p : ((items.take (i + 1)).flatMap F ++ (items.drop (i + 1)).flatMap F).length = (items.flatMap F).length := by rw [← List.flatMap_append, List.take_append_drop]
    rw [List.length_append] at p
    omega
  · rintro _ _ ⟨rfl, rfl⟩
    rw [List.take_length]; exact hR
theorem Fr.wide {K : PySem.W.Frag} {H0 : Hp} {P Q : Addr → Prop} {μ : List Addr} {ρ : Rho} {S : Sto} {σ : L2.St} {H : Hp} (f : Fr K ⟨H0, P⟩ μ ρ S σ H) (h : ∀ a, P a → Q a) : Fr K ⟨H0, Q⟩ μ ρ S σ H :=
  ⟨f.env, f.cel, f.nd, fun a ha => (f.own a ha).imp (h a) id, fun b o e n => f.keep b o e fun z => n (h b z)⟩
theorem Fr.backD {K : PySem.W.Frag} {c : FP} {μ : List Addr} {ρ : Rho} {S : Sto} {σ : L2.St} {H H' : Hp} {D : Addr} {μ' : List Addr} {ρ' : Rho} {S' : Sto} {σ' : L2.St} (f : Fr K c μ ρ S σ H) (oD : c.F0 D ∨ c.H0 D = none) (nD : D ∉ μ') (f' : Fr K ⟨H, fun a => a ∈ μ ∨ a = D⟩ μ' ρ' S' σ' H') : Fr K c μ' ρ' S' σ' H' := by
  refine ⟨f'.env, f'.cel, f'.nd, fun a ha => ?_, fun b o e n => ?_⟩
  · rcases f'.own a ha with z | z
    · rcases z with z | z
      · exact f.own a z
      · subst z; exact absurd ha nD
    · exact f.noH0 z
  · refine f'.keep b o (f.keep b o e n) fun hb => ?_
    rcases hb with hb | hb
    · rcases f.own b hb with z | z
      · exact n z
      · rw [z] at e; cases e
    · subst hb
      rcases oD with z | z
      · exact n z
      · rw [z] at e; cases e
/-- one more element at D -/
theorem Fr.more {K : PySem.W.Frag} {c : FP} {μ : List Addr} {ρ : Rho} {S : Sto} {σ : L2.St} {H : Hp} {D : Addr} {us ws : List V} (f : Fr K c μ ρ S σ H) (hD : H D = some (.lst us)) (nD : D ∉ μ) (oD : c.F0 D ∨ c.H0 D = none) : Fr K c μ ρ S σ (upd H D (.lst ws)) := by
  have g : Ge H (upd H D (.lst ws)) := .put hD
  refine ⟨paired_imp f.env fun _ _ z => SlotR.mono g (.refl _) z, paired_at f.cel fun j z a e1 e2 cr => ?_, f.nd, f.own, fun b ob e nb => ?_⟩
  · have na : a ≠ D := fun h => nD (h ▸ List.mem_of_getElem? e2)
    exact cr.move (fun o e => by rw [upd_ne na]; exact e) g
  · have nb' : b ≠ D := fun h => by
      subst h
      rcases oD with z | z
      · exact nb z
      · rw [z] at e; cases e
    rw [upd_ne nb']; exact f.keep b ob e nb
/-- in a frame of its own the list at D stays -/
theorem Fr.stays {K : PySem.W.Frag} {H : Hp} {μ0 μ : List Addr} {ρ : Rho} {S : Sto} {σ : L2.St} {H' : Hp} {D : Addr} {o : HO} (f : Fr K ⟨H, fun a => a ∈ μ0⟩ μ ρ S σ H') (e : H D = some o) (n : D ∉ μ0) : H' D = some o ∧ D ∉ μ := by
  refine ⟨f.keep D _ e n, fun hm => ?_⟩
  rcases f.own D hm with z | z
  · exact n z
  · have z' : H D = none := z
    rw [e] at z'; cases z'
theorem lc2_up {tg iter : Expr} {ti : TIp} {ws ws1 : List Nat} {g : TGp} {tt : TTp} {ti1 : TIp} {g1 : TGp} {tt1 : TTp} {te : TEp} {vs vs1 : List Nat} {c : FP} {wi : TI} {σ : L2.St} {H : Hp} {Q : VK}
    (hw : ∀ μ ρ S σ H R (Q : It → Hp → Prop), Fr X.K c μ ρ S σ H → ti ρ S R → (∀ items S1, R items S1 → ∀ μ1 H1 J, Pre μ μ1 → Fr X.K c μ1 ρ S1 σ H1 → Ge H H1 → ItIs X.K J items H1 → Q J H1) → wi σ H Q)
    (hv : ∀ i ∈ ws, i ∈ vs) (hv1 : ∀ i ∈ ws1, i ∈ vs1) (h : upN X.K c (tLC2 ti g tt ti1 g1 tt1 te vs vs1) σ H Q) : tLc2 wi (upGE X.K ws g) (upTE X.K tt) (upIE X.K ti1) (upGE X.K ws1 g1) (upTE X.K tt1) (upE X.K te) vs vs1 σ H Q := by
  obtain ⟨μ, ρ, S, R, f, h, q⟩ := h
  refine hw μ ρ S σ H _ _ f h fun items S1 ⟨I, i0, step, done⟩ μ1 H1 J p1 f1 g0 it D hD => ?_
  refine ⟨fun i m H' => m = items.length - i ∧ i ≤ items.length ∧ ∃ μ' S' acc us, Pre μ1 μ' ∧ Ge H1 H' ∧ Fr X.K c μ' ρ S' σ H' ∧ H' D = some (.lst us) ∧ D ∉ μ' ∧ (c.F0 D ∨ c.H0 D = none) ∧ Reps X.K H' acc us ∧ I i acc S',
    ⟨items.length, by simp, Nat.zero_le _, μ1, S1, [], [], .refl _, .new hD, f1.same (same_new hD), upd_same, f1.notIn hD, f1.noH0 hD, rfl, i0⟩, ?_⟩
  rintro i m H' ⟨rfl, hle, μ', S', acc, us, p', g', f', hDu, nD, oD, rr, ii⟩
  by_cases hlt : i < items.length
  · refine .inr ⟨it.go H' g' i hlt, fun H2 => ∃ μ2 S2 acc2 us2, Pre μ1 μ2 ∧ Ge H1 H2 ∧ Fr X.K c μ2 ρ S2 σ H2 ∧ H2 D = some (.lst us2) ∧ D ∉ μ2 ∧ (c.F0 D ∨ c.H0 D = none) ∧ Reps X.K H2 acc2 us2 ∧ I (i + 1) acc2 S2,
      fun H2 hx => ⟨items.length - (i + 1), by omega, rfl, hlt, hx⟩, fun x H2 y => ?_⟩
    have hd : items[i]? = some items[i] := by simp [hlt]
    obtain ⟨rx, same⟩ := it.yld H' g' i _ hd x H2 y
    have f2 := f'.same same
    have hD2 : H2 D = some (.lst us) := same _ _ hDu
    have rr2 : Reps X.K H2 acc us := Reps.mono (.of_same same) _ _ rr
    have g2 : Ge H1 H2 := g'.trans (.of_same same)
    have f2w : Fr X.K c μ' (wipeP ρ vs) S' (wipe σ vs) H2 := f2.slots (wipe_slots f2.env vs)
    have fs := f2w.sub
    refine ⟨_, μ', wipeP ρ vs, S', _, _, fs, rx, step i _ acc S' hd ii, fun ρ3 h3 σ3 f3 off => ⟨wipe_off off hv, _, μ', ρ3, S', _, f3, h3, fun b S4 h4 μ4 H4 p4 f4 g4 => ?_⟩⟩
    obtain ⟨hD4, nD4⟩ := f4.stays hD2 nD
    have rr4 : Reps X.K H4 acc us := Reps.mono g4 _ _ rr2
    cases b with
    | false =>
      have h4' : I (i + 1) acc S4 := h4
      have f5 : Fr X.K c μ4 ρ S4 σ H4 := (f2w.back f4).slots (paired_imp f2.env fun _ _ z => SlotR.mono g4 p4 z)
      exact iteF ⟨μ4, S4, acc, us, p'.trans p4, g2.trans g4, f5, hD4, nD4, oD, rr4, h4'⟩
    | true =>
      -- from here on the frame may change D, too
      refine iteT ⟨_, μ4, ρ3, S4, _, f4, h4, fun its1 S5 ⟨I1, j0, step1, done1⟩ μ5 H5 J1 p5 f5n g5 it1 => ?_⟩
      have hD5 : H5 D = some (.lst us) ∧ D ∉ μ5 := f5n.stays hD2 nD
      have f5 := f5n.wide (Q := fun a => a ∈ μ' ∨ a = D) fun a ha => .inl ha
      refine ⟨fun j k H' => k = its1.length - j ∧ j ≤ its1.length ∧ ∃ μ' S' acc us, Pre μ5 μ' ∧ Ge H5 H' ∧ Fr X.K ⟨H2, fun a => a ∈ _ ∨ a = D⟩ μ' ρ3 S' σ3 H' ∧ H' D = some (.lst us) ∧ D ∉ μ' ∧ Reps X.K H' acc us ∧ I1 j acc S',
        ⟨its1.length, by simp, Nat.zero_le _, μ5, S5, acc, us, .refl _, .refl _, f5, hD5.1, hD5.2, Reps.mono g5 _ _ rr4, j0⟩, ?_⟩
      rintro j k H6 ⟨rfl, hle6, μ6, S6, acc6, us6, p6, g6, f6, hD6, nD6, rr6, jj⟩
      by_cases hlt6 : j < its1.length
      · refine .inr ⟨it1.go H6 g6 j hlt6, fun H' => ∃ μ' S' acc us, Pre μ5 μ' ∧ Ge H5 H' ∧ Fr X.K ⟨H2, fun a => a ∈ _ ∨ a = D⟩ μ' ρ3 S' σ3 H' ∧ H' D = some (.lst us) ∧ D ∉ μ' ∧ Reps X.K H' acc us ∧ I1 (j + 1) acc S',
          fun H' hx => ⟨its1.length - (j + 1), by omega, rfl, hlt6, hx⟩, fun x H7 y => ?_⟩
        have hd6 : its1[j]? = some its1[j] := by simp [hlt6]
        obtain ⟨rx7, same7⟩ := it1.yld H6 g6 j _ hd6 x H7 y
        have f7 := f6.same same7
        have hD7 : H7 D = some (.lst us6) := same7 _ _ hD6
        have rr7 : Reps X.K H7 acc6 us6 := Reps.mono (.of_same same7) _ _ rr6
        have g7 : Ge H5 H7 := g6.trans (.of_same same7)
        have f7w : Fr X.K _ μ6 (wipeP ρ3 vs1) S6 (wipe σ3 vs1) H7 := f7.slots (wipe_slots f7.env vs1)
        refine ⟨_, μ6, wipeP ρ3 vs1, S6, _, _, f7w.sub, rx7, step1 j _ acc6 S6 hd6 jj, fun ρ8 h8 σ8 f8 off8 => ⟨wipe_off off8 hv1, _, μ6, ρ8, S6, _, f8, h8, fun b S9 h9 μ9 H9 p9 f9 g9 => ?_⟩⟩
        obtain ⟨hD9, nD9⟩ := f9.stays hD7 nD6
        have rr9 : Reps X.K H9 acc6 us6 := Reps.mono g9 _ _ rr7
        cases b with
        | false =>
          have h9' : I1 (j + 1) acc6 S9 := h9
          have f10 := (f7w.back f9).slots (paired_imp f7.env fun _ _ z => SlotR.mono g9 p9 z)
          exact iteF ⟨μ9, S9, acc6, us6, p6.trans p9, g7.trans g9, f10, hD9, nD9, rr9, h9'⟩
        | true =>
          refine iteT ⟨_, μ9, ρ8, S9, _, f9, h9, fun y S10 h10 μ10 v10 H10 p10 f10 r10 g10 => ?_⟩
          cases y with
          | cel _ => exact h10.elim
          | d y =>
            obtain ⟨hz, h10⟩ := h10
            obtain ⟨hD10, nD10⟩ := f10.stays hD7 nD6
            have rr10 : Reps X.K H10 acc6 us6 := Reps.mono g10 _ _ rr9
            have f11 := (f7w.back f10).slots (paired_imp f7.env fun _ _ z => SlotR.mono (g9.trans g10) (p9.trans p10) z)
            have g11 : Ge H10 (upd H10 D (.lst (us6 ++ [v10]))) := .put hD10
            refine ⟨us6, hD10, by rw [← rr10.length]; exact hz, μ10, S10, acc6 ++ [y], us6 ++ [v10], p6.trans (p9.trans p10), g7.trans (g9.trans (g10.trans g11)), f11.more hD10 nD10 (.inl (.inr rfl)), upd_same, nD10, Reps.mono g11 _ _ (rr10.append (.one r10)), h10⟩
      · have e : j = its1.length := by omega
        subst e
        have f12 : Fr X.K c μ6 ρ S6 σ H6 := (f2w.backD oD nD6 f6).slots (paired_imp f2.env fun _ _ z => SlotR.mono (g4.trans (g5.trans g6)) (p4.trans (p5.trans p6)) z)
        exact .inl ⟨it1.stop H6 g6, μ6, S6, acc6, us6, p'.trans (p4.trans (p5.trans p6)), g2.trans (g4.trans (g5.trans g6)), f12, hD6, nD6, oD, rr6, done1 acc6 S6 jj⟩
  · have e : i = items.length := by omega
    subst e
    exact .inl ⟨it.stop H' g', q acc S' (done acc S' ii) μ' D us H' (p1.trans p') f' hDu nD oD rr (g0.trans g')⟩
theorem wn_lc2 {elt tg iter tg1 iter1 : Expr} {ifs ifs1 : List Expr} {scope : Scope} {own : List (Str × Nat)} {vs1 : List Nat} {ti ti1 : TIp} {ws ws1 : List Nat} {g g1 : TGp} {tt tt1 : TTp} {te : TEp} (hc : X.calm = true) (hN : X.N.Nodup) (hi : WI X tg iter ti) (ok : BlkOk X.N X.env.scope scope own) (hv : ∀ i ∈ ws, i ∈ own.map (·.2)) (hvs : ∀ i ∈ vs1, i ∈ own.map (·.2)) (hv1 : ∀ i ∈ ws1, i ∈ vs1)
    (hg : ∀ (s : Shared) (H : Hp) (C : Addr) (cl : List (Str × Addr)) (fp : List Addr), WG (X.blk s H scope (compEnvC scope cl C X.env) fp) tg ws g) (ht : ∀ (s : Shared) (H : Hp) (C : Addr) (cl : List (Str × Addr)) (fp : List Addr), WTs (X.blk s H scope (compEnvC scope cl C X.env) fp) ifs tt)
    (hi1 : ∀ (s : Shared) (H : Hp) (C : Addr) (cl : List (Str × Addr)) (fp : List Addr), WI (X.blk s H scope (compEnvC scope cl C X.env) fp) tg1 iter1 ti1)
    (hg1 : ∀ (s : Shared) (H : Hp) (C : Addr) (cl : List (Str × Addr)) (fp : List Addr), WG (X.blk s H scope (compEnvC scope cl C X.env) fp) tg1 ws1 g1) (ht1 : ∀ (s : Shared) (H : Hp) (C : Addr) (cl : List (Str × Addr)) (fp : List Addr), WTs (X.blk s H scope (compEnvC scope cl C X.env) fp) ifs1 tt1)
    (he : ∀ (s : Shared) (H : Hp) (C : Addr) (cl : List (Str × Addr)) (fp : List Addr), WE (X.blk s H scope (compEnvC scope cl C X.env) fp) elt te) (hs : ∀ x, foldedSetIterable iter X.env x = pure x := by intro _; rfl) (hs1 : ∀ env x, foldedSetIterable iter1 env x = pure x := by intro _ _; rfl) :
    WN X (.ListComp elt [⟨tg, iter, ifs, 0⟩, ⟨tg1, iter1, ifs1, 0⟩] scope pos) (tLC2 ti g tt ti1 g1 tt1 te (sndsR own) vs1) := by
  rw [sndsR_eq]
  refine ⟨fun c => ?_⟩
  obtain ⟨wi, hpi, hw⟩ := hi.ex c
  exact pe_w (pe_lc2 (wi := wi) (g := upGE X.K ws g) (tt := upTE X.K tt) (wi1 := upIE X.K ti1) (g1 := upGE X.K ws1 g1) (tt1 := upTE X.K tt1) (te := upE X.K te) hc hN hpi ok hvs (fun s H C cl fp => PG.anyF (hg s H C cl fp)) (fun s H C cl fp => PTs.anyF (ht s H C cl fp)) (fun s H C cl fp => PI.anyF (hi1 s H C cl fp)) (fun s H C cl fp => PG.anyF (hg1 s H C cl fp)) (fun s H C cl fp => PTs.anyF (ht1 s H C cl fp)) (fun s H C cl fp => PE.anyF (he s H C cl fp)) hs hs1) fun σ H Q h => lc2_up (tg := tg) (iter := iter) hw hv hv1 h
/-- name = [.. for .. for ..] on one line, kept unlocked; locked -/
theorem ws_setLC2 {i : Nat} {y : Str} {py spos : Pos} {elt tg iter tg1 iter1 : Expr} {ifs ifs1 : List Expr} {scope : Scope} {own : List (Str × Nat)} {vs1 : List Nat} {ti ti1 : TIp} {ws ws1 : List Nat} {g g1 : TGp} {tt tt1 : TTp} {te : TEp} (hc : X.calm = true) (hN : X.N.Nodup) (hy : X.N[i]? = some y) (hyl : X.env.scope.names.lookup y = some .local)
    (hsw : swapsWith (.ListComp elt [⟨tg, iter, ifs, 0⟩, ⟨tg1, iter1, ifs1, 0⟩] scope pos) (some (.Name y py)) spos.line X.env = pure true) (hi : WI X tg iter ti) (ok : BlkOk X.N X.env.scope scope own) (hv : ∀ i ∈ ws, i ∈ own.map (·.2)) (hvs : ∀ i ∈ vs1, i ∈ own.map (·.2)) (hv1 : ∀ i ∈ ws1, i ∈ vs1)
    (hg : ∀ (s : Shared) (H : Hp) (C : Addr) (cl : List (Str × Addr)) (fp : List Addr), WG (X.blk s H scope (compEnvC scope cl C X.env) fp) tg ws g) (ht : ∀ (s : Shared) (H : Hp) (C : Addr) (cl : List (Str × Addr)) (fp : List Addr), WTs (X.blk s H scope (compEnvC scope cl C X.env) fp) ifs tt)
    (hi1 : ∀ (s : Shared) (H : Hp) (C : Addr) (cl : List (Str × Addr)) (fp : List Addr), WI (X.blk s H scope (compEnvC scope cl C X.env) fp) tg1 iter1 ti1)
    (hg1 : ∀ (s : Shared) (H : Hp) (C : Addr) (cl : List (Str × Addr)) (fp : List Addr), WG (X.blk s H scope (compEnvC scope cl C X.env) fp) tg1 ws1 g1) (ht1 : ∀ (s : Shared) (H : Hp) (C : Addr) (cl : List (Str × Addr)) (fp : List Addr), WTs (X.blk s H scope (compEnvC scope cl C X.env) fp) ifs1 tt1)
    (he : ∀ (s : Shared) (H : Hp) (C : Addr) (cl : List (Str × Addr)) (fp : List Addr), WE (X.blk s H scope (compEnvC scope cl C X.env) fp) elt te) (hs : ∀ x, foldedSetIterable iter X.env x = pure x := by intro _; rfl) (hs1 : ∀ env x, foldedSetIterable iter1 env x = pure x := by intro _ _; rfl) :
    WS X (.Assign [.Name y py] (.ListComp elt [⟨tg, iter, ifs, 0⟩, ⟨tg1, iter1, ifs1, 0⟩] scope pos) spos) (tStF i (tLC2 ti g tt ti1 g1 tt1 te (sndsR own) vs1)) := by
  rw [sndsR_eq]
  refine ⟨fun c => ?_⟩
  obtain ⟨wi, hpi, hw⟩ := hi.ex c
  exact ps_w (ps_lock (ps_setLc2 (wi := wi) (g := upGE X.K ws g) (tt := upTE X.K tt) (wi1 := upIE X.K ti1) (g1 := upGE X.K ws1 g1) (tt1 := upTE X.K tt1) (te := upE X.K te) hc hN hy hyl hsw hpi ok hvs (fun s H C cl fp => PG.anyF (hg s H C cl fp)) (fun s H C cl fp => PTs.anyF (ht s H C cl fp)) (fun s H C cl fp => PI.anyF (hi1 s H C cl fp)) (fun s H C cl fp => PG.anyF (hg1 s H C cl fp)) (fun s H C cl fp => PTs.anyF (ht1 s H C cl fp)) (fun s H C cl fp => PE.anyF (he s H C cl fp)) hs hs1)) fun D σ H ⟨μ, ρ, S, E, f, h, q⟩ => lc2_up (tg := tg) (iter := iter) hw hv hv1 (stF_up f h q)
/-- xs += a new list -/
@[reducible] def tAuX (i : Nat) (ta : TNp) : TSp := fun E ρ S => match sltAt ρ i with
  | some (.cel j) => ta ρ S fun zs S1 => match cellAt S1 j with
    | some (.lst xs) => xs.length + zs.length ≤ sizeLine ∧ E.nx (setR ρ i (some (.cel j))) (setS S1 j (.lst (xs ++ zs)))
    | _ => False
  | _ => False
theorem ws_augExt {i : Nat} {x : Str} {e : Expr} {ta : TNp} {pos' : Pos} (hN : X.N.Nodup) (hi : X.N[i]? = some x) (hx : Loc X.env.scope x) (he : WN X e ta)
    (hf : X.fn x = true ∨ X.env.scope.names.lookup x = some .local := by first | exact .inl rfl | exact .inr rfl | assumption) : WS X (.AugAssign (.Name x pos') .Add e pos) (tAuX i ta) := by
  refine ⟨fun c => ps_w (L2.ps_aug hN hi hx (he.pe c) iop_ext hf) fun D σ H ⟨μ, ρ, S, E, f, h, q⟩ => ?_⟩
  unfold tAuX at h
  split at h
  · rename_i j e0
    obtain ⟨v1, hv, a, ha, rfl⟩ := f.slot (sltAt_get e0)
    refine ⟨_, hv, μ, ρ, S, _, f, h, fun zs S2 h2 μ2 p2' ws H2 p2 f2 hp2 np no r2 g2 => ?_⟩
    rw [cellAt_get] at h2
    split at h2
    · rename_i ys e4
      obtain ⟨hz, h2⟩ := h2
      obtain ⟨a', ha', us, e5, rr2⟩ := f2.at e4
      have ha3 := p2.get ha
      rw [ha3] at ha'; cases ha'
      obtain ⟨f4, g4⟩ := f2.write (o := .lst (us ++ ws)) (y := .lst (ys ++ zs)) e4 ha3 ⟨_, upd_same, Reps.mono (.put e5) _ _ (rr2.append r2)⟩
      refine ⟨a, p2', us, ws, rfl, rfl, e5, hp2, by rw [← rr2.length, ← r2.length]; exact hz, ?_⟩
      exact q.nx _ _ h2 μ2 _ _ p2 (f4.set (x := .cel j) ⟨a, ha3, rfl⟩) (g2.trans g4)
    · exact h2.elim
  · exact h.elim
end
end Pu

namespace Claim
open PySem PySem.Spec PyProof.Rows L2 Pu
open PySem.W (alike alike_unique AlikeAll minD maxD min_list_default max_list_default minD_ints reads_keeps dataLt)
/-! ### small facts -/
theorem mulP {i j : Int} {m n : Nat} (hi : i.natAbs < 2 ^ m) (hj : j.natAbs < 2 ^ n) (h : m + n < 1000000 := by decide) : CMulP i j := by
  have f : ∀ (x k : Nat), x < 2 ^ k → x.log2 ≤ k := fun x k hx => by
    by_cases h0 : x = 0
    · subst h0; simp
    · exact Nat.le_of_lt ((Nat.log2_lt h0).mpr hx)
  have a := f _ _ hi
  have b := f _ _ hj
  unfold CMulP
  omega
theorem logP {i : Int} {m : Nat} (hi : i.natAbs < 2 ^ m) (h : m < 9000 := by decide) : i.natAbs.log2 < 9000 := by
  by_cases h0 : i.natAbs = 0
  · rw [h0]; decide
  · exact Nat.lt_trans ((Nat.log2_lt h0).mpr hi) h
theorem pos {i : Int} (h : 0 < i := by decide) : 0 < i := h
/-- the two ways of a conditional expression meet -/
theorem j_ie {t : TTp} {ta tb : TEp} {ρ : Rho} {S : Sto} {k : PQ} (P : PyData → Prop) (h1 : ∃ v, P v ∧ ∀ k' : PQ, k' (.d v) S → tIe t ta tb ρ S k') (h2 : ∀ v, P v → k (.d v) S) : tIe t ta tb ρ S k := by
  obtain ⟨v, p, h⟩ := h1
  exact h k (h2 v p)
theorem ix_map {ns : List Int} {i : Int} (h0 : 0 ≤ i) (h1 : i < ns.length) : ∃ v, ixD (ns.map PyData.int) i = some (.int v) := by
  have hl : i.toNat < ns.length := by omega
  exact ⟨ns[i.toNat], by rw [ixD_nn h0, List.getElem?_map, List.getElem?_eq_getElem hl]; rfl⟩
theorem j_if {tc : TTp} {t u : TSp} {E : EndsP} {ρ : Rho} {S : Sto} (P : Rho → Sto → Prop) (h1 : ∃ ρ' S', P ρ' S' ∧ ∀ E' : EndsP, E'.nx ρ' S' → tIfP tc t u E' ρ S) (h2 : ∀ ρ' S', P ρ' S' → E.nx ρ' S') : tIfJ tc t u E ρ S := by
  obtain ⟨ρ', S', p, h⟩ := h1
  exact tifj_ (h E (h2 ρ' S' p))
theorem j_ifA {tc : TTp} {t u : TSp} {E : EndsP} {ρ : Rho} {S : Sto} (P : Rho → Sto → Prop) (h1 : ∀ E' : EndsP, (∀ ρ' S', P ρ' S' → E'.nx ρ' S') → tIfP tc t u E' ρ S) (h2 : ∀ ρ' S', P ρ' S' → E.nx ρ' S') : tIfJ tc t u E ρ S := tifj_ (h1 E h2)
/-- a value that is stored, told by what is true of it -/
theorem j_st {i : Nat} {te : TEp} {E : EndsP} {ρ : Rho} {S : Sto} (P : PyData → Prop) (h1 : ∃ v, P v ∧ ∀ k : PQ, k (.d v) S → te ρ S k) (h2 : ∀ v, P v → E.nx (setR ρ i (some (.d v))) S) : tStJ i te E ρ S := by
  obtain ⟨v, p, h⟩ := h1
  exact stj_ (h _ (h2 v p))
theorem fmod_abs_lt (x : Int) {y : Int} (h : y ≠ 0) : (x.fmod y).natAbs < y.natAbs := by
  rw [Int.fmod_eq_emod]
  have h1 := Int.emod_nonneg x h
  have h2 := Int.emod_lt x h
  split <;> rename_i hc
  · omega
  · have hy : y < 0 := by
      rcases Int.lt_trichotomy y 0 with z | z | z
      · exact z
      · exact absurd z h
      · exact absurd (Or.inl (by omega)) hc
    have h3 : x % y ≠ 0 := fun z => hc (.inr (Int.dvd_of_emod_eq_zero z))
    omega
theorem gcd_fmod (x y : Int) : Int.gcd y (x.fmod y) = Int.gcd x y := by
  have e : x.fmod y = x + y * (-(x.fdiv y)) := by
    have := Int.mul_fdiv_add_fmod x y
    rw [Int.mul_neg]; omega
  rw [e, Int.gcd_add_mul_left_right, Int.gcd_comm]
/-- the greatest common divisor -/
def spec_gcd (ds : List PyData) (R : PyData → Prop) : Prop := ∃ a b : Int, ds = [.int a, .int b] ∧ R (.int (Int.gcd a b))
theorem len_gcd {ds : List PyData} {R : PyData → Prop} (h : spec_gcd ds R) : (dA ds).length = 2 := by
  obtain ⟨_, _, rfl, _⟩ := h; rfl
theorem gcd_end {x : Int} : (if x < 0 then -x else x) = ((Int.gcd x 0 : Nat) : Int) := by
  rw [Int.gcd_zero_right]; split <;> omega
def isInt : PyData → Bool
  | .int _ => true
  | _ => false
/-- what a ratio is -/
def ratioB : PyData → Bool
  | .tuple [.int t, .int u] => decide (0 < u) && decide ((Int.gcd t u : Int) = 1)
  | _ => false
/-- a number that is drawn from a bag -/
def BagOk (a b : Int) : Prop := 0 ≤ a ∧ 0 ≤ b ∧ b ≤ 2147483647
def spec_take (xs ds : List PyData) (R : PyData → List PyData → Prop) : Prop := ∃ a b n : Int, xs = [.int a, .int b] ∧ ds = [.int n] ∧ BagOk a b ∧ 0 < n ∧ n.natAbs.log2 < 9000 ∧
  ∀ r a' b' : Int, 0 ≤ r → r < n → BagOk a' b' → R (.int r) [.int a', .int b']
theorem len_take {xs ds : List PyData} {R : PyData → List PyData → Prop} (h : spec_take xs ds R) : (PV.cel 0 :: dA ds).length = 2 := by
  obtain ⟨_, _, _, _, rfl, _⟩ := h; rfl
def spec_draw (P : PyData → Prop) (xs ds : List PyData) (R : PyData → List PyData → Prop) : Prop := ∃ a b : Int, xs = [.int a, .int b] ∧ ds = [] ∧ BagOk a b ∧ ∀ r a' b', P r → BagOk a' b' → R r [.int a', .int b']
theorem len_draw {P : PyData → Prop} {xs ds : List PyData} {R : PyData → List PyData → Prop} (h : spec_draw P xs ds R) : (PV.cel 0 :: dA ds).length = 1 := by
  obtain ⟨_, _, _, rfl, _⟩ := h; rfl
/-- bounds of ints by digits -/
theorem ten98 : (10 : Int) ^ Int.toNat 49 * 10 ^ Int.toNat 49 = 10 ^ 98 := by decide
theorem below {n : Int} {m k : Nat} (h : n.natAbs ≤ 10 ^ m) (hk : 10 ^ m < 2 ^ k := by decide) : n.natAbs < 2 ^ k := Nat.lt_of_le_of_lt h hk
theorem ix_len {xs : List PyData} {i : Int} (h0 : 0 ≤ i) (h1 : i < xs.length) : ∃ d, ixD xs i = some d ∧ d ∈ xs := by
  have hl : i.toNat < xs.length := by omega
  exact ⟨xs[i.toNat], by rw [ixD_nn h0, List.getElem?_eq_getElem hl], List.getElem_mem hl⟩
/-- the ratio of two ints, as it is reckoned -/
def sgd (t u : Int) : Int := if u < 0 then -((Int.gcd t u : Nat) : Int) else ((Int.gcd t u : Nat) : Int)
def lowD (t u : Int) : PyData := .tuple [.int (t.fdiv (sgd t u)), .int (u.fdiv (sgd t u))]
def spec_low (ds : List PyData) (R : PyData → Prop) : Prop := ∃ t u : Int, ds = [.int t, .int u] ∧ u ≠ 0 ∧ u.natAbs < 2 ^ 8000 ∧ R (lowD t u)
theorem len_low {ds : List PyData} {R : PyData → Prop} (h : spec_low ds R) : (dA ds).length = 2 := by
  obtain ⟨_, _, rfl, _⟩ := h; rfl
theorem gcd_le {t u : Int} (h : u ≠ 0) : 0 < Int.gcd t u ∧ Int.gcd t u ≤ u.natAbs :=
  ⟨Int.gcd_pos_of_ne_zero_right _ h, Nat.le_of_dvd (by omega) (Int.gcd_dvd_natAbs_right t u)⟩
theorem sgd_ok {t u : Int} (h : u ≠ 0) (hb : u.natAbs < 2 ^ 8000) : sgd t u ≠ 0 ∧ (sgd t u).natAbs.log2 < 9000 := by
  obtain ⟨a, b⟩ := gcd_le (t := t) h
  have e : (sgd t u).natAbs = Int.gcd t u := by unfold sgd; split <;> omega
  refine ⟨fun z => ?_, logP (m := 8000) ?_ (by decide)⟩
  · rw [z] at e; simp at e; omega
  · rw [e]; exact Nat.lt_of_le_of_lt b hb
def spec_is_ratio (ds : List PyData) (R : PyData → Prop) : Prop := ∃ d, ds = [d] ∧ R (.bool (ratioB d))
theorem len_is_ratio {ds : List PyData} {R : PyData → Prop} (h : spec_is_ratio ds R) : (dA ds).length = 1 := by
  obtain ⟨_, rfl, _⟩ := h; rfl
theorem nx_gc {b : Nat} {I : Rho → Sto → Prop} {ρ ρ' : Rho} {S : Sto} (S' : Sto) (h : I ρ' S') (hw : Wk S (lenS S') ρ ρ') (hb : b ≤ lenS S') (hr : ∃ rest, S = S' ++ rest) : Nx b I ρ S := .inr ⟨ρ', S', ⟨hb, hw, hr⟩, h⟩
theorem keepS {S : Sto} {n : Nat} {x : Option PV} (h : okC n x) : x = none ∨ (x = x ∧ okC n x) ∨ FzS S x x := .inr (.inl ⟨rfl, h⟩)
theorem keepF {S : Sto} {n i : Nat} {xs : List PyData} (h : S[i]? = some (Cell.frz xs)) : some (PV.d (.list xs)) = none ∨ (some (PV.d (.list xs)) = some (.cel i) ∧ okC n (some (PV.d (.list xs)))) ∨ FzS S (some (.cel i)) (some (PV.d (.list xs))) := .inr (.inr ⟨i, xs, rfl, h, rfl⟩)
/-! ### reduced ratios -/
def RatOk (n d : Int) : Prop := 0 < d ∧ Int.gcd n d = 1
theorem cop_dvd {a b c : Int} (h : Int.gcd a b = 1) (hd : b ∣ a * c) : b ∣ c := by
  have h1 : b.natAbs ∣ a.natAbs * c.natAbs := by rw [← Int.natAbs_mul]; exact Int.natAbs_dvd_natAbs.mpr hd
  exact Int.natAbs_dvd_natAbs.mp (Nat.Coprime.dvd_of_dvd_mul_left (Nat.Coprime.symm h) h1)
theorem rat_uniq {n d n' d' : Int} (h : RatOk n d) (h' : RatOk n' d') (e : n * d' = n' * d) : n = n' ∧ d = d' := by
  have h1 : d ∣ d' := cop_dvd h.2 (e ▸ Int.dvd_mul_left n' d)
  have h2 : d' ∣ d := cop_dvd h'.2 (e ▸ Int.dvd_mul_left n d')
  have e2 : d = d' := Int.dvd_antisymm (Int.le_of_lt h.1) (Int.le_of_lt h'.1) h1 h2
  subst e2
  exact ⟨Int.eq_of_mul_eq_mul_right (Int.ne_of_gt h.1) e, rfl⟩
theorem sgd_dvd {t u : Int} : sgd t u ∣ t ∧ sgd t u ∣ u := by
  unfold sgd; split
  · exact ⟨Int.neg_dvd.mpr (Int.gcd_dvd_left t u), Int.neg_dvd.mpr (Int.gcd_dvd_right t u)⟩
  · exact ⟨Int.gcd_dvd_left t u, Int.gcd_dvd_right t u⟩
theorem sgd_ne {t u : Int} (h : u ≠ 0) : sgd t u ≠ 0 := by
  have := Int.gcd_pos_of_ne_zero_right t h
  unfold sgd; split <;> omega
theorem sgd_abs {t u : Int} : (sgd t u).natAbs = Int.gcd t u := by unfold sgd; split <;> omega
theorem low_ok {t u : Int} (h : u ≠ 0) : ∃ n d : Int, t.fdiv (sgd t u) = n ∧ u.fdiv (sgd t u) = d ∧ RatOk n d ∧ n * u = t * d ∧ n.natAbs ≤ t.natAbs ∧ d.natAbs ≤ u.natAbs ∧ n * sgd t u = t ∧ d * sgd t u = u := by
  obtain ⟨d1, d2⟩ := @sgd_dvd t u
  have hg := sgd_ne (t := t) h
  have e1 : t.fdiv (sgd t u) = t / sgd t u := Int.fdiv_eq_ediv_of_dvd d1
  have e2 : u.fdiv (sgd t u) = u / sgd t u := Int.fdiv_eq_ediv_of_dvd d2
  have m1 : t / sgd t u * sgd t u = t := Int.ediv_mul_cancel d1
  have m2 : u / sgd t u * sgd t u = u := Int.ediv_mul_cancel d2
  have hp : 0 < Int.gcd t u := Int.gcd_pos_of_ne_zero_right t h
  refine ⟨_, _, e1, e2, ⟨?_, ?_⟩, ?_, ?_, ?_, m1, m2⟩
  · have s : sgd t u = if u < 0 then -((Int.gcd t u : Nat) : Int) else ((Int.gcd t u : Nat) : Int) := rfl
    rcases Int.lt_trichotomy (u / sgd t u) 0 with z | z | z
    · exfalso
      split at s
      · have : 0 < u / sgd t u * sgd t u := Int.mul_pos_of_neg_of_neg z (by omega)
        omega
      · have : u / sgd t u * sgd t u < 0 := Int.mul_neg_of_neg_of_pos z (by omega)
        omega
    · rw [z] at m2; omega
    · exact z
  · have k : Int.gcd (t / sgd t u * sgd t u) (u / sgd t u * sgd t u) = Int.gcd (t / sgd t u) (u / sgd t u) * (sgd t u).natAbs := Int.gcd_mul_right _ _ _
    rw [m1, m2, sgd_abs] at k
    have : 1 * Int.gcd t u = Int.gcd (t / sgd t u) (u / sgd t u) * Int.gcd t u := by omega
    exact (Nat.eq_of_mul_eq_mul_right hp this).symm
  · generalize t / sgd t u = a at m1
    generalize u / sgd t u = b at m2
    rw [← m2]
    conv => rhs; rw [← m1]
    generalize sgd _ _ = g
    rw [Int.mul_assoc, Int.mul_comm b g]
  · have := congrArg Int.natAbs m1
    rw [Int.natAbs_mul] at this
    have hq : 1 ≤ (sgd t u).natAbs := by omega
    have := Nat.le_mul_of_pos_right (t / sgd t u).natAbs hq
    omega
  · have := congrArg Int.natAbs m2
    rw [Int.natAbs_mul] at this
    have hq : 1 ≤ (sgd t u).natAbs := by omega
    have := Nat.le_mul_of_pos_right (u / sgd t u).natAbs hq
    omega
theorem ks_bound (m : Int) : -(2 ^ 62) ≤ (if (if m < 8 then m else 8) > 2 then (if m < 8 then m else 8) else 2) ∧ (if (if m < 8 then m else 8) > 2 then (if m < 8 then m else 8) else 2) < 2 ^ 62 := by
  constructor <;> (split <;> (try split)) <;> omega
theorem ks_le {i : Nat} {m : Int} (h : i < (if (if m < 8 then m else 8) > 2 then (if m < 8 then m else 8) else 2).toNat) : i ≤ 8 := by
  have : ∀ m : Int, (if (if m < 8 then m else 8) > 2 then (if m < 8 then m else 8) else 2) ≤ 8 := fun m => by split <;> (try split) <;> omega
  have := this m
  omega
theorem low_uniq {t u n d : Int} (hu : u ≠ 0) (h : RatOk n d) (e : n * u = t * d) : lowD t u = .tuple [.int n, .int d] := by
  obtain ⟨n', d', e1, e2, h', e', _⟩ := low_ok (t := t) hu
  have : n' * d = n * d' := by
    refine Int.eq_of_mul_eq_mul_right hu ?_
    rw [Int.mul_right_comm, e', Int.mul_right_comm n, e, Int.mul_right_comm]
  obtain ⟨rfl, rfl⟩ := rat_uniq h' h this
  unfold lowD; rw [e1, e2]
theorem low_is {t u : Int} (hu : u ≠ 0) : ∃ n d : Int, lowD t u = .tuple [.int n, .int d] ∧ RatOk n d ∧ n * u = t * d ∧ n.natAbs ≤ t.natAbs ∧ d.natAbs ≤ u.natAbs := by
  obtain ⟨n, d, e1, e2, h, e, a, b, _⟩ := low_ok (t := t) hu
  exact ⟨n, d, by unfold lowD; rw [e1, e2], h, e, a, b⟩
theorem low_mul {t u f : Int} (hu : u ≠ 0) (hf : f ≠ 0) : lowD (t * f) (u * f) = lowD t u := by
  obtain ⟨n, d, e, h, e1, _⟩ := low_is (t := t) hu
  rw [e]
  refine low_uniq (Int.mul_ne_zero hu hf) h ?_
  rw [← Int.mul_assoc, e1, Int.mul_right_comm]
theorem ratB {n d : Int} (h : RatOk n d) : ratioB (.tuple [.int n, .int d]) = true := by
  show (decide (0 < d) && decide ((Int.gcd n d : Int) = 1)) = true
  rw [decide_eq_true h.1, h.2]; rfl
theorem rp_int {n : Int} {m : Nat} (h : n.natAbs < 2 ^ m) (hm : m ≤ 1919 := by decide) : RpOk (.int n) := by
  show n.natAbs.log2 < 1920
  by_cases h0 : n.natAbs = 0
  · rw [h0]; decide
  · exact Nat.lt_of_lt_of_le ((Nat.log2_lt h0).mpr h) (by omega)
theorem nz (n : Int) : n + (if decide (n = 0) = true then 1 else 0) ≠ 0 := by
  by_cases h : n = 0
  · subst h; decide
  · rw [if_neg (by simpa using h)]; omega
theorem nz_le (n : Int) : (n + (if decide (n = 0) = true then 1 else 0)).natAbs ≤ n.natAbs + 1 := by
  split <;> omega
theorem mul_lt {a b : Int} {m n k : Nat} (ha : a.natAbs < 2 ^ m) (hb : b.natAbs < 2 ^ n) (h : m + n ≤ k := by decide) : (a * b).natAbs < 2 ^ k := by
  rw [Int.natAbs_mul]
  refine Nat.lt_of_lt_of_le ?_ (Nat.pow_le_pow_right (by decide) h)
  rw [Nat.pow_add]
  exact Nat.mul_lt_mul'' ha hb
theorem lt_up {a : Nat} {m n : Nat} (h : a < 2 ^ m) (hm : m ≤ n := by decide) : a < 2 ^ n := Nat.lt_of_lt_of_le h (Nat.pow_le_pow_right (by decide) hm)
theorem dig98 {n : Int} (h : n.natAbs ≤ 10 ^ 98) : n.natAbs < 2 ^ 330 := Nat.lt_of_le_of_lt h (by decide)
theorem dig98' {n : Int} (h : n.natAbs ≤ 10 ^ 98 + 1) : n.natAbs < 2 ^ 330 := Nat.lt_of_le_of_lt h (by decide)
theorem ltU {a : Nat} {m : Nat} (n : Nat) (h : a < 2 ^ m) (hm : m ≤ n := by decide) : a < 2 ^ n := lt_up h hm
theorem rat_rp {n d : Int} {k : Nat} (hn : n.natAbs < 2 ^ k) (hd : d.natAbs < 2 ^ k) (hk : k ≤ 1919 := by decide) : RpsOk [.int n, .int d] := ⟨rp_int hn hk, rp_int hd hk, trivial⟩
theorem dpt {x : PyData} (h : Nat.ble x.depth 60 = true) : x.depth ≤ 60 := Nat.le_of_ble_eq_true h
theorem bnd {x : PyData} (h : Nat.ble (bndD x) sizeLine = true) : bndD x ≤ sizeLine := Nat.le_of_ble_eq_true h
theorem dT {p : Prop} [Decidable p] (h : p) : PV.d (PyData.bool (decide p)) = PV.d (PyData.bool true) := by rw [decide_eq_true h]
/-- a ratio of bounded size -/
def ratP (k : Nat) (d : PyData) : Prop := ∃ n m : Int, d = .tuple [.int n, .int m] ∧ RatOk n m ∧ n.natAbs < 2 ^ k ∧ m.natAbs < 2 ^ k
theorem RatOk.ne {n d : Int} (h : RatOk n d) : d ≠ 0 := Int.ne_of_gt h.1
theorem low_ratP {t u : Int} {k : Nat} (hu : u ≠ 0) (ht : t.natAbs < 2 ^ k) (hb : u.natAbs < 2 ^ k) : ratP k (lowD t u) := by
  obtain ⟨n, d, e, h, _, a, b⟩ := low_is (t := t) hu
  exact ⟨n, d, e, h, Nat.lt_of_le_of_lt a ht, Nat.lt_of_le_of_lt b hb⟩
/-- an answer of two ratios -/
def spec_two (k : Nat) (g : Int → Int → Int → Int → PyData) (ds : List PyData) (R : PyData → Prop) : Prop := ∃ a b c d : Int, ds = [.tuple [.int a, .int b], .tuple [.int c, .int d]] ∧ b ≠ 0 ∧ d ≠ 0 ∧
  (a.natAbs < 2 ^ k ∧ b.natAbs < 2 ^ k ∧ c.natAbs < 2 ^ k ∧ d.natAbs < 2 ^ k) ∧ R (g a b c d)
theorem len_two {k : Nat} {g : Int → Int → Int → Int → PyData} {ds : List PyData} {R : PyData → Prop} (h : spec_two k g ds R) : (dA ds).length = 2 := by
  obtain ⟨_, _, _, _, rfl, _⟩ := h; rfl
def plusD (a b c d : Int) : PyData := lowD (a * d + c * b) (b * d)
def minusD (a b c d : Int) : PyData := lowD (a * d - c * b) (b * d)
@[reducible] def lessD (a b c d : Int) : PyData := .bool (decide (a * d < c * b))
theorem add_lt {a b : Int} {m k : Nat} (ha : a.natAbs < 2 ^ m) (hb : b.natAbs < 2 ^ m) (h : m + 1 ≤ k := by decide) : (a + b).natAbs < 2 ^ k := by
  have : 2 ^ (m + 1) ≤ 2 ^ k := Nat.pow_le_pow_right (by decide) h
  rw [Nat.pow_succ] at this
  omega
theorem sub_lt {a b : Int} {m k : Nat} (ha : a.natAbs < 2 ^ m) (hb : b.natAbs < 2 ^ m) (h : m + 1 ≤ k := by decide) : (a - b).natAbs < 2 ^ k := by
  have : 2 ^ (m + 1) ≤ 2 ^ k := Nat.pow_le_pow_right (by decide) h
  rw [Nat.pow_succ] at this
  omega
theorem plus_is {a b c d : Int} (h1 : b ≠ 0) (h2 : d ≠ 0) : ∃ n m : Int, plusD a b c d = .tuple [.int n, .int m] ∧ RatOk n m ∧ n * (b * d) = (a * d + c * b) * m ∧ n.natAbs ≤ (a * d + c * b).natAbs ∧ m.natAbs ≤ (b * d).natAbs := low_is (Int.mul_ne_zero h1 h2)
theorem minus_is {a b c d : Int} (h1 : b ≠ 0) (h2 : d ≠ 0) : ∃ n m : Int, minusD a b c d = .tuple [.int n, .int m] ∧ RatOk n m ∧ n * (b * d) = (a * d - c * b) * m ∧ n.natAbs ≤ (a * d - c * b).natAbs ∧ m.natAbs ≤ (b * d).natAbs := low_is (Int.mul_ne_zero h1 h2)
theorem plus_comm (a b c d : Int) : plusD c d a b = plusD a b c d := by unfold plusD; rw [Int.add_comm, Int.mul_comm d b]
theorem minus_plus {a b c d n m : Int} (h : RatOk a b) (h2 : d ≠ 0) (hm : m ≠ 0) (e : n * (b * d) = (a * d + c * b) * m) : minusD n m c d = .tuple [.int a, .int b] :=
  low_uniq (Int.mul_ne_zero hm h2) h (by grind)
theorem plus_minus {a b c d n m : Int} (h : RatOk a b) (h2 : d ≠ 0) (hm : m ≠ 0) (e : n * (b * d) = (a * d - c * b) * m) : plusD n m c d = .tuple [.int a, .int b] :=
  low_uniq (Int.mul_ne_zero hm h2) h (by grind)
theorem RatOk.neg {n d : Int} (h : RatOk n d) : RatOk (-n) d := ⟨h.1, by rw [Int.neg_gcd]; exact h.2⟩
theorem minus_turn {a b c d n m : Int} (h : RatOk n m) (h1 : b ≠ 0) (h2 : d ≠ 0) (e : n * (b * d) = (a * d - c * b) * m) : minusD c d a b = .tuple [.int (-n), .int m] :=
  low_uniq (Int.mul_ne_zero h2 h1) h.neg (by grind)
theorem ratOne (n : Int) : RatOk n 1 := ⟨by decide, by rw [Int.gcd_one]⟩
theorem div_le (a : Int) {b : Int} (h : 0 < b) : (a / b).natAbs ≤ a.natAbs := by
  have := Int.natAbs_fdiv_le_natAbs a b
  rwa [Int.fdiv_eq_ediv_of_nonneg _ (Int.le_of_lt h)] at this
/-- an answer of one ratio -/
def spec_rat (k : Nat) (g : Int → Int → PyData) (ds : List PyData) (R : PyData → Prop) : Prop := ∃ a b : Int, ds = [.tuple [.int a, .int b]] ∧ 0 < b ∧ (a.natAbs < 2 ^ k ∧ b.natAbs < 2 ^ k) ∧ R (g a b)
theorem len_rat {k : Nat} {g : Int → Int → PyData} {ds : List PyData} {R : PyData → Prop} (h : spec_rat k g ds R) : (dA ds).length = 1 := by
  obtain ⟨_, _, rfl, _⟩ := h; rfl
@[reducible] def floorD (a b : Int) : PyData := .int (a / b)
def restD (a b : Int) : PyData := lowD (a % b) b
theorem rest_in {c e n m : Int} (he : 0 < e) (hm : 0 < m) (q : n * e = (c % e) * m) : 0 ≤ n ∧ n < m ∧ (c / e * m + n) * e = c * m := by
  have h1 := Int.emod_nonneg c (Int.ne_of_gt he)
  have h2 := Int.emod_lt_of_pos c he
  have h3 : e * (c / e) + c % e = c := Int.mul_ediv_add_emod c e
  refine ⟨?_, ?_, ?_⟩
  · refine Int.le_of_mul_le_mul_right (a := e) ?_ he
    rw [q, Int.zero_mul]; exact Int.mul_nonneg h1 (Int.le_of_lt hm)
  · refine Int.lt_of_mul_lt_mul_right (a := e) ?_ (Int.le_of_lt he)
    rw [q, Int.mul_comm m]; exact Int.mul_lt_mul_of_pos_right h2 hm
  · generalize c / e = w at *
    generalize c % e = r at *
    subst h3
    rw [Int.add_mul, q]; grind
theorem floor_in {c e : Int} (he : 0 < e) : c / e * e ≤ c ∧ c < (c / e + 1) * e := by
  have h1 := Int.emod_nonneg c (Int.ne_of_gt he)
  have h2 := Int.emod_lt_of_pos c he
  have h3 : e * (c / e) + c % e = c := Int.mul_ediv_add_emod c e
  rw [Int.add_mul, Int.mul_comm (c / e)]
  omega
theorem mod_lt {c e : Int} {k : Nat} (he : 0 < e) (h : e.natAbs < 2 ^ k) : (c % e).natAbs < 2 ^ k := by
  have h1 := Int.emod_nonneg c (Int.ne_of_gt he)
  have h2 := Int.emod_lt_of_pos c he
  omega
/-! ### data that == may look at -/
def lay (k : Nat) (d : PyData) : Prop := d.canLay0 = true ∧ d.depth ≤ k
theorem lay_int {k : Nat} (i : Int) : lay k (.int i) := ⟨rfl, Nat.zero_le _⟩
theorem lay_all {k : Nat} : ∀ {xs : List PyData}, (∀ x ∈ xs, lay k x) → PyData.canLayAll0 xs = true ∧ PyData.depthAll xs ≤ k
  | [], _ => ⟨rfl, Nat.zero_le _⟩
  | x :: xs, h => by
    obtain ⟨a, b⟩ := h x (by simp)
    obtain ⟨c, d⟩ := lay_all (xs := xs) fun y hy => h y (by simp [hy])
    exact ⟨by rw [PyData.canLayAll0, a, c]; rfl, by rw [PyData.depthAll]; omega⟩
theorem lay_list {k : Nat} {xs : List PyData} (h : ∀ x ∈ xs, lay k x) : lay (k + 1) (.list xs) := by
  obtain ⟨a, b⟩ := lay_all h
  exact ⟨by rw [PyData.canLay0]; exact a, by rw [PyData.depth]; omega⟩
theorem lay_tup {k : Nat} {xs : List PyData} (h : ∀ x ∈ xs, lay k x) : lay (k + 1) (.tuple xs) := by
  obtain ⟨a, b⟩ := lay_all h
  exact ⟨by rw [PyData.canLay0]; exact a, by rw [PyData.depth]; omega⟩
theorem lay.sh {k : Nat} {d : PyData} (h : lay k d) (hk : k ≤ 64 := by decide) : SeqAt.shaped d = true := by
  unfold SeqAt.shaped
  rw [h.1, decide_eq_true (Nat.le_trans h.2 hk)]; rfl
theorem lay_rat {k : Nat} (n d : Int) : lay (k + 1) (.tuple [.int n, .int d]) := lay_tup fun x hx => by
  simp only [List.mem_cons, List.not_mem_nil, or_false] at hx
  rcases hx with rfl | rfl <;> exact lay_int _
theorem ratP.lay {k m : Nat} {d : PyData} (h : ratP k d) : lay (m + 1) d := by
  obtain ⟨n, e, rfl, _⟩ := h; exact lay_rat n e
theorem eqv_rat (a b c d : Int) : PyData.eqv (.tuple [.int a, .int b]) (.tuple [.int c, .int d]) = (decide (a = c) && decide (b = d)) := by
  simp [PyData.eqv, PyData.eqvAll]; rfl
theorem eqv_rat_self (a b : Int) : PyData.eqv (.tuple [.int a, .int b]) (.tuple [.int a, .int b]) = true := by
  rw [eqv_rat, decide_eq_true rfl, decide_eq_true rfl]; rfl
mutual
theorem alike_self : ∀ d : PyData, d.canLay0 = true → alike d d = true
  | .none, _ => rfl
  | .bool _, _ => rfl
  | .int _, _ => rfl
  | .str _, _ => rfl
  | .list xs, h => by
    rw [PyData.canLay0] at h
    rw [alike]; exact alikes_self xs h
  | .tuple xs, h => by
    rw [PyData.canLay0] at h
    rw [alike]; exact alikes_self xs h
  | .dict _, h => by simp [PyData.canLay0] at h
theorem alikes_self : ∀ xs : List PyData, PyData.canLayAll0 xs = true → PySem.W.alikeAll xs xs = true
  | [], _ => rfl
  | x :: xs, h => by
    rw [PyData.canLayAll0, Bool.and_eq_true] at h
    rw [PySem.W.alikeAll, alike_self x h.1, alikes_self xs h.2]; rfl
end
theorem eqv_self {k : Nat} {d : PyData} (h : lay k d) : PyData.eqv d d = true := PySem.W.eqv_refl_alike d (alike_self d h.1)
/-- a test of one thing against itself -/
theorem ne_self {k : Nat} {d : PyData} {A B : Prop} (h : lay k d) (hb : B) (hk : k ≤ 64 := by decide) : (SeqAt.shaped d = true ∧ SeqAt.shaped d = true) ∧ Br (bnot (PyData.eqv d d)) A B :=
  ⟨⟨h.sh hk, h.sh hk⟩, brF (by rw [eqv_self h]) hb⟩
theorem eq_self {k : Nat} {d : PyData} {A B : Prop} (h : lay k d) (hb : A) (hk : k ≤ 64 := by decide) : (SeqAt.shaped d = true ∧ SeqAt.shaped d = true) ∧ Br (PyData.eqv d d) A B :=
  ⟨⟨h.sh hk, h.sh hk⟩, brT (eqv_self h) hb⟩
theorem lay_low {k : Nat} {t u : Int} (h : u ≠ 0) : lay (k + 1) (lowD t u) := by
  obtain ⟨n, d, e, _⟩ := low_is (t := t) h
  rw [e]; exact lay_rat n d
theorem perm_erase {α : Type} : ∀ (l : List α) (i : Nat) (h : i < l.length), (l[i] :: l.eraseIdx i).Perm l
  | x :: l, 0, _ => .refl _
  | x :: l, i + 1, h => by
    show (l[i]'(by simpa using h) :: x :: l.eraseIdx i).Perm (x :: l)
    exact (List.Perm.swap _ _ _).trans ((perm_erase l i (by simpa using h)).cons x)
/-! ### ratios as rational numbers -/
@[reducible] def rD (q : Rat) : PyData := .tuple [.int q.num, .int q.den]
theorem rat_ok (q : Rat) : RatOk q.num q.den := ⟨by have := q.den_pos; omega, q.reduced⟩
theorem low_rat {t u : Int} (h : u ≠ 0) : lowD t u = rD (Rat.divInt t u) := by
  refine low_uniq h (rat_ok _) ?_
  have hd : ((Rat.divInt t u).den : Int) ≠ 0 := (rat_ok _).ne
  exact (Rat.divInt_eq_divInt_iff hd h).mp (Rat.num_divInt_den _)
theorem den_ne (q : Rat) : (q.den : Int) ≠ 0 := (rat_ok q).ne
theorem plus_rat (p q : Rat) : plusD p.num p.den q.num q.den = rD (p + q) := by
  unfold plusD
  rw [low_rat (Int.mul_ne_zero (den_ne p) (den_ne q)), ← Rat.divInt_add_divInt _ _ (den_ne p) (den_ne q), Rat.num_divInt_den, Rat.num_divInt_den]
theorem minus_rat (p q : Rat) : minusD p.num p.den q.num q.den = rD (p - q) := by
  unfold minusD
  rw [low_rat (Int.mul_ne_zero (den_ne p) (den_ne q)), ← Rat.divInt_sub_divInt _ _ (den_ne p) (den_ne q), Rat.num_divInt_den, Rat.num_divInt_den]
theorem less_rat (p q : Rat) : lessD p.num p.den q.num q.den = .bool (decide (p < q)) := by
  unfold lessD
  congr 1
  exact decide_eq_decide.mpr (Rat.lt_iff p q).symm
theorem rat_is {n d : Int} (h : RatOk n d) : ∃ q : Rat, PyData.tuple [.int n, .int d] = rD q ∧ q.num = n ∧ (q.den : Int) = d := by
  have e := low_uniq (t := n) (u := d) h.ne h rfl
  rw [low_rat h.ne] at e
  refine ⟨_, e.symm, ?_⟩
  unfold rD at e
  injection e with e
  injection e with e1 e
  injection e with e2 _
  injection e1 with e1
  injection e2 with e2
  exact ⟨e1, e2⟩
/-- a bound of both ends -/
def Bd (k : Nat) (q : Rat) : Prop := q.num.natAbs < 2 ^ k ∧ (q.den : Int).natAbs < 2 ^ k
theorem ratP.rat {k : Nat} {d : PyData} (h : ratP k d) : ∃ q, d = rD q ∧ Bd k q := by
  obtain ⟨n, m, rfl, ok, a, b⟩ := h
  obtain ⟨q, e, e1, e2⟩ := rat_is ok
  exact ⟨q, e, by unfold Bd; rw [e1, e2]; exact ⟨a, b⟩⟩
theorem Bd.up {k m : Nat} {q : Rat} (h : Bd k q) (hm : k ≤ m) : Bd m q := ⟨lt_up h.1 hm, lt_up h.2 hm⟩
theorem Bd.low {k : Nat} {t u : Int} (hu : u ≠ 0) (ht : t.natAbs < 2 ^ k) (hb : u.natAbs < 2 ^ k) : Bd k (Rat.divInt t u) := by
  obtain ⟨n, d, e, ok, _, a, b⟩ := low_is (t := t) hu
  rw [low_rat hu] at e
  unfold rD at e
  injection e with e
  injection e with e1 e
  injection e with e2 _
  injection e1 with e1
  injection e2 with e2
  unfold Bd
  rw [e1, e2]
  exact ⟨Nat.lt_of_le_of_lt a ht, Nat.lt_of_le_of_lt b hb⟩
theorem Bd.add {k l m : Nat} {p q : Rat} (hp : Bd k p) (hq : Bd l q) (hm : k + l + 1 ≤ m) : Bd m (p + q) := by
  have e := Rat.divInt_add_divInt p.num q.num (den_ne p) (den_ne q)
  rw [Rat.num_divInt_den, Rat.num_divInt_den] at e
  rw [e]
  exact Bd.low (Int.mul_ne_zero (den_ne p) (den_ne q)) (add_lt (m := k + l) (mul_lt hp.1 hq.2 (Nat.le_refl _)) (mul_lt hq.1 hp.2 (by omega)) hm) (mul_lt hp.2 hq.2 (by omega))
theorem Bd.sub {k l m : Nat} {p q : Rat} (hp : Bd k p) (hq : Bd l q) (hm : k + l + 1 ≤ m) : Bd m (p - q) := by
  have e := Rat.divInt_sub_divInt p.num q.num (den_ne p) (den_ne q)
  rw [Rat.num_divInt_den, Rat.num_divInt_den] at e
  rw [e]
  exact Bd.low (Int.mul_ne_zero (den_ne p) (den_ne q)) (sub_lt (m := k + l) (mul_lt hp.1 hq.2 (Nat.le_refl _)) (mul_lt hq.1 hp.2 (by omega)) hm) (mul_lt hp.2 hq.2 (by omega))
/-- the contract of plus, minus, is_less on rationals -/
theorem two_rat {g : Int → Int → Int → Int → PyData} {R : PyData → Prop} {p q : Rat} (hp : Bd 3900 p) (hq : Bd 3900 q) (h : R (g p.num p.den q.num q.den)) : spec_two 3900 g [rD p, rD q] R :=
  ⟨_, _, _, _, rfl, den_ne p, den_ne q, ⟨hp.1, hp.2, hq.1, hq.2⟩, h⟩
def rsum : List Rat → Rat
  | [] => 0
  | q :: qs => q + rsum qs
theorem rsum_app : ∀ xs ys : List Rat, rsum (xs ++ ys) = rsum xs + rsum ys
  | [], ys => by rw [rsum, Rat.zero_add]; rfl
  | x :: xs, ys => by rw [List.cons_append, rsum, rsum, rsum_app xs ys, Rat.add_assoc]
theorem rsum_perm {xs ys : List Rat} (h : xs.Perm ys) : rsum xs = rsum ys := by
  induction h with
  | nil => rfl
  | cons x _ ih => rw [rsum, rsum, ih]
  | swap x y l => rw [rsum, rsum, rsum, rsum, ← Rat.add_assoc, ← Rat.add_assoc, Rat.add_comm y x]
  | trans _ _ a b => rw [a, b]
theorem rsum_bd {k : Nat} : ∀ {xs : List Rat}, (∀ q ∈ xs, Bd k q) → Bd (1 + xs.length * (k + 1)) (rsum xs)
  | [], _ => ⟨by show (0 : Int).natAbs < _; simp; , by show (1 : Int).natAbs < _; simp⟩
  | x :: xs, h => (h x (by simp)).add (rsum_bd fun q hq => h q (by simp [hq])) (by rw [List.length_cons, Nat.add_mul]; omega)
theorem lay_rD {k : Nat} (q : Rat) : lay (k + 1) (rD q) := lay_rat _ _
theorem eqv_rD (q : Rat) : PyData.eqv (rD q) (rD q) = true := eqv_rat_self _ _
/-- the sum of a list of ratios -/
def spec_total (ds : List PyData) (R : PyData → Prop) : Prop := ∃ (qs : List Rat) (k : Nat), ds = [.list (qs.map rD)] ∧ (∀ q ∈ qs, Bd k q) ∧ 1 + qs.length * (k + 1) ≤ 3899 ∧ k ≤ 3900 ∧ qs.length ≤ 1000 ∧ R (rD (rsum qs))
theorem len_total {ds : List PyData} {R : PyData → Prop} (h : spec_total ds R) : (dA ds).length = 1 := by
  obtain ⟨_, _, rfl, _⟩ := h; rfl
theorem ratio_rD (q : Rat) : ratioB (rD q) = true := ratB (rat_ok q)
theorem perm_rats {l : List PyData} {qs : List Rat} (h : l.Perm (qs.map rD)) : ∃ qs' : List Rat, l = qs'.map rD ∧ qs'.Perm qs := by
  let v : PyData → Rat := fun d => match d with
    | .tuple [.int n, .int m] => Rat.divInt n m
    | _ => 0
  have hv : ∀ q, v (rD q) = q := fun q => Rat.num_divInt_den q
  refine ⟨l.map v, ?_, ?_⟩
  · rw [List.map_map]
    have : ∀ x ∈ l, (rD ∘ v) x = x := fun x hx => by
      obtain ⟨q, _, rfl⟩ := List.mem_map.mp (h.subset hx)
      show rD (v (rD q)) = rD q
      rw [hv]
    exact ((List.map_congr_left this).trans (by simp)).symm
  · have := h.map v
    rw [List.map_map] at this
    rwa [show v ∘ rD = id from funext hv, List.map_id] at this
theorem cut_from {xs : List PyData} {i : Int} (h0 : 0 ≤ i) (h1 : i ≤ xs.length) : cutL xs (some i) none = xs.drop i.toNat := by
  unfold cutL
  rw [show HT.sIx xs.length 0 (some i) = i.toNat from by show (if i < 0 then _ else min i.toNat xs.length) = _; rw [if_neg (by omega)]; omega]
  show (xs.drop i.toNat).take (xs.length - i.toNat) = _
  rw [← List.length_drop, List.take_length]
theorem cut_to {xs : List PyData} {i : Int} (h0 : 0 ≤ i) (h1 : i ≤ xs.length) : cutL xs none (some i) = xs.take i.toNat := by
  unfold cutL
  rw [show HT.sIx xs.length xs.length (some i) = i.toNat from by show (if i < 0 then _ else min i.toNat xs.length) = _; rw [if_neg (by omega)]; omega]
  rfl
theorem cut_take {xs : List PyData} {i : Int} (h0 : 0 ≤ i) : cutL xs none (some i) = xs.take i.toNat := by
  unfold cutL
  rw [show HT.sIx xs.length xs.length (some i) = min i.toNat xs.length from by show (if i < 0 then _ else min i.toNat xs.length) = _; rw [if_neg (by omega)]]
  show (xs.drop 0).take (min i.toNat xs.length - 0) = _
  rw [List.drop_zero, Nat.sub_zero]
  by_cases h : i.toNat ≤ xs.length
  · rw [Nat.min_eq_left h]
  · rw [Nat.min_eq_right (by omega), List.take_length, List.take_of_length_le (by omega)]
def iR (n : Int) : Rat := Rat.divInt n 1
theorem iR_add (a b : Int) : iR (a + b) = iR a + iR b := by
  unfold iR
  rw [Rat.divInt_add_divInt _ _ (by decide) (by decide), Int.mul_one, Int.mul_one]; rfl
def flR (q : Rat) : Int := q.num / q.den
def restR (q : Rat) : Rat := Rat.divInt (q.num % q.den) q.den
theorem rest_fl (q : Rat) : iR (flR q) + restR q = q := by
  unfold iR flR restR
  rw [Rat.divInt_add_divInt _ _ (by decide) (den_ne q)]
  conv => rhs; rw [← Rat.num_divInt_den q]
  rw [Int.one_mul, Int.mul_one, Int.mul_comm, Int.mul_ediv_add_emod]
theorem rests_fl : ∀ qs : List Rat, iR (qs.map flR).sum + rsum (qs.map restR) = rsum qs
  | [] => by show iR 0 + 0 = 0; rw [show iR 0 = 0 from by decide, Rat.add_zero]
  | q :: qs => by
    have h1 := rest_fl q
    have h2 := rests_fl qs
    rw [List.map_cons, List.map_cons, List.sum_cons, rsum, rsum, iR_add]
    grind
theorem intsD_map (zs : List Int) : intsD (zs.map PyData.int) = some zs := by
  induction zs with
  | nil => rfl
  | cons z zs ih => simp only [List.map_cons, intsD, ih]
theorem fl_sum {k : Nat} : ∀ {qs : List Rat}, (∀ q ∈ qs, Bd k q) → (qs.map flR).sum.natAbs ≤ qs.length * 2 ^ k
  | [], _ => by simp
  | q :: qs, h => by
    have h1 := fl_sum (qs := qs) fun p hp => h p (by simp [hp])
    have h2 : (flR q).natAbs ≤ q.num.natAbs := div_le _ (rat_ok q).1
    have h3 := (h q (by simp)).1
    rw [List.map_cons, List.sum_cons, List.length_cons, Nat.add_mul]
    omega
theorem rest_bd {k : Nat} {q : Rat} (h : Bd k q) : Bd k (restR q) := Bd.low (den_ne q) (mod_lt (rat_ok q).1 h.2) h.2
def floorF : PyData → PyData
  | .tuple [.int n, .int m] => .int (n / m)
  | _ => .none
def restF : PyData → PyData
  | .tuple [.int n, .int m] => restD n m
  | _ => .none
theorem floors (qs : List Rat) : mapD floorF (qs.map rD) = (qs.map flR).map PyData.int := by
  rw [mapD_eq, List.map_map, List.map_map]; rfl
theorem rests (qs : List Rat) : mapD restF (qs.map rD) = (qs.map restR).map rD := by
  rw [mapD_eq, List.map_map, List.map_map]
  exact List.map_congr_left fun q _ => low_rat (den_ne q)
theorem rat_rat {g : Int → Int → PyData} {R : PyData → Prop} {p : Rat} (hp : Bd 3900 p) (h : R (g p.num p.den)) : spec_rat 3900 g [rD p] R :=
  ⟨_, _, rfl, (rat_ok p).1, hp, h⟩
theorem rp_rD {k : Nat} {q : Rat} (h : Bd k q) (hk : k ≤ 1919 := by decide) : RpsOk [.int q.num, .int q.den] := rat_rp h.1 h.2 hk
theorem sub_zero' (q : Rat) : q - 0 = q := by grind
theorem sub_self' (q : Rat) : q - q = 0 := by grind
theorem ks6_bound (m : Int) : -(2 ^ 62) ≤ (if (if m < 6 then m else 6) > 2 then (if m < 6 then m else 6) else 2) ∧ (if (if m < 6 then m else 6) > 2 then (if m < 6 then m else 6) else 2) < 2 ^ 62 := by
  constructor <;> (split <;> (try split)) <;> omega
theorem ks6_le {i : Nat} {m : Int} (h : i < (if (if m < 6 then m else 6) > 2 then (if m < 6 then m else 6) else 2).toNat) : i ≤ 6 := by
  have : ∀ m : Int, (if (if m < 6 then m else 6) > 2 then (if m < 6 then m else 6) else 2) ≤ 6 := fun m => by split <;> (try split) <;> omega
  have := this m
  omega
theorem lay_ints {k : Nat} (ns : List Int) : lay (k + 1) (.list (ns.map PyData.int)) := lay_list fun x hx => by
  obtain ⟨i, _, rfl⟩ := List.mem_map.mp hx; exact lay_int i
theorem eqvAll_ints : ∀ a b : List Int, PyData.eqvAll (a.map PyData.int) (b.map PyData.int) = decide (a = b)
  | [], [] => by simp [PyData.eqvAll]
  | [], _ :: _ => by simp [PyData.eqvAll]
  | _ :: _, [] => by simp [PyData.eqvAll]
  | x :: a, y :: b => by
    rw [List.map_cons, List.map_cons, PyData.eqvAll, eqvAll_ints a b, PyData.eqv]
    by_cases h : x = y
    · subst h; simp
    · simp [h]
theorem eqv_ints (a b : List Int) : PyData.eqv (.list (a.map PyData.int)) (.list (b.map PyData.int)) = decide (a = b) := by
  rw [PyData.eqv]; exact eqvAll_ints a b
theorem eqv_nil (xs : List PyData) : PyData.eqv (.list xs) (.list []) = xs.isEmpty := by
  cases xs <;> simp [PyData.eqv, PyData.eqvAll]
theorem ixD_last (xs : List PyData) (y : PyData) : ixD (xs ++ [y]) (-1) = some y := by
  show nthD (revD (xs ++ [y]) []) 0 = some y
  rw [revD_eq]
  simp [nthD]
theorem set_last {α : Type} (xs : List α) (y z : α) : (xs ++ [y]).set ((xs ++ [y]).length - 1) z = xs ++ [z] := by
  rw [List.length_append, List.set_append]
  simp
local macro_rules | `(tactic| walk_at "w") => `(tactic| with_reducible conv => whnf)
local macro_rules | `(tactic| walk_at "n") => `(tactic| ((try (with_reducible conv => whnf)); (repeat ((first | (with_reducible refine Bar.mk ?_) | (with_reducible refine lenI ?_)); (try (with_reducible conv => whnf)))); (try dsimp only)))
/-! ### the text -/
def topS (i : Nat) : Stmt := PySem.Challenge.pw_onecut_k07_sets_of_cuts_known.main.body.getD i (.Pass ⟨0, 0, 0, 0⟩)
abbrev s_u_law_bag : Stmt := topS 10
theorem sc_u_law_bag : FnScope ["script", "at", "primes", "cell", "large", "mixed"] ["script", "at"] (defScope s_u_law_bag) := ⟨rfl, rfl, rfl, by decide +kernel, rfl, by decide +kernel, by decide +kernel⟩
abbrev s_is_less : Stmt := topS 4
theorem sc_is_less : FnScope ["one", "other"] ["one", "other"] (defScope s_is_less) := ⟨rfl, rfl, rfl, by decide +kernel, rfl, by decide +kernel, by decide +kernel⟩
abbrev s_is_integer : Stmt := topS 1
theorem sc_is_integer : FnScope ["thing"] ["thing"] (defScope s_is_integer) := ⟨rfl, rfl, rfl, by decide +kernel, rfl, by decide +kernel, by decide +kernel⟩
abbrev s_common : Stmt := topS 2
theorem sc_common : FnScope ["one", "other"] ["one", "other"] (defScope s_common) := ⟨rfl, rfl, rfl, by decide +kernel, rfl, by decide +kernel, by decide +kernel⟩
abbrev s_is_ratio : Stmt := topS 3
theorem sc_is_ratio : FnScope ["thing", "top", "under"] ["thing"] (defScope s_is_ratio) := ⟨rfl, rfl, rfl, by decide +kernel, rfl, by decide +kernel, by decide +kernel⟩
abbrev s_is_span : Stmt := topS 7
theorem sc_is_span : FnScope ["thing", "low", "high", "end"] ["thing"] (defScope s_is_span) := ⟨rfl, rfl, rfl, by decide +kernel, rfl, by decide +kernel, by decide +kernel⟩
abbrev s_is_cuts : Stmt := topS 8
theorem sc_is_cuts : FnScope ["thing", "span", "one", "other"] ["thing"] (defScope s_is_cuts) := ⟨rfl, rfl, rfl, by decide +kernel, rfl, by decide +kernel, by decide +kernel⟩
abbrev s_u_law_take : Stmt := topS 11
theorem sc_u_law_take : FnScope ["bag", "size", "digit"] ["bag", "size"] (defScope s_u_law_take) := ⟨rfl, rfl, rfl, by decide +kernel, rfl, by decide +kernel, by decide +kernel⟩
abbrev s_u_law_drawn_grain : Stmt := topS 17
theorem sc_u_law_drawn_grain : FnScope ["bag"] ["bag"] (defScope s_u_law_drawn_grain) := ⟨rfl, rfl, rfl, by decide +kernel, rfl, by decide +kernel, by decide +kernel⟩
abbrev s_u_law_part : Stmt := topS 12
theorem sc_u_law_part : FnScope ["one", "other"] ["one", "other"] (defScope s_u_law_part) := ⟨rfl, rfl, rfl, by decide +kernel, rfl, by decide +kernel, by decide +kernel⟩
abbrev s_u_law_lowest : Stmt := topS 13
theorem sc_u_law_lowest : FnScope ["top", "under", "part"] ["top", "under"] (defScope s_u_law_lowest) := ⟨rfl, rfl, rfl, by decide +kernel, rfl, by decide +kernel, by decide +kernel⟩
abbrev s_u_law_form : Stmt := topS 16
theorem sc_u_law_form : FnScope ["units", "grain", "found", "unit", "low", "high"] ["units", "grain"] (defScope s_u_law_form) := ⟨rfl, rfl, rfl, by decide +kernel, rfl, by decide +kernel, by decide +kernel⟩
abbrev s_u_law_units : Stmt := topS 15
theorem sc_u_law_units : FnScope ["bag", "grain", "found", "inside", "pace", "unit"] ["bag", "grain"] (defScope s_u_law_units) := ⟨rfl, rfl, rfl, by decide +kernel, rfl, by decide +kernel, by decide +kernel⟩
abbrev s_u_law_odd : Stmt := topS 14
theorem sc_u_law_odd : FnScope ["bag", "some"] ["bag"] (defScope s_u_law_odd) := ⟨rfl, rfl, rfl, by decide +kernel, rfl, by decide +kernel, by decide +kernel⟩
abbrev s_u_law_end : Stmt := topS 21
theorem sc_u_law_end : FnScope ["bag", "end", "some"] ["bag", "end"] (defScope s_u_law_end) := ⟨rfl, rfl, rfl, by decide +kernel, rfl, by decide +kernel, by decide +kernel⟩
abbrev s_u_law_changed : Stmt := topS 22
theorem sc_u_law_changed : FnScope ["bag", "some", "at", "way", "low", "high", "others"] ["bag", "some"] (defScope s_u_law_changed) := ⟨rfl, rfl, rfl, by decide +kernel, rfl, by decide +kernel, by decide +kernel⟩
abbrev s_u_law_is_ratio : Stmt := topS 18
theorem sc_u_law_is_ratio : FnScope ["thing", "part"] ["thing"] (defScope s_u_law_is_ratio) := ⟨rfl, rfl, rfl, by decide +kernel, rfl, by decide +kernel, by decide +kernel⟩
abbrev s_u_law_is_span : Stmt := topS 19
theorem sc_u_law_is_span : FnScope ["thing", "low", "high", "end"] ["thing"] (defScope s_u_law_is_span) := ⟨rfl, rfl, rfl, by decide +kernel, rfl, by decide +kernel, by decide +kernel⟩
abbrev s_u_law_is_set : Stmt := topS 20
theorem sc_u_law_is_set : FnScope ["thing", "span", "one", "other"] ["thing"] (defScope s_u_law_is_set) := ⟨rfl, rfl, rfl, by decide +kernel, rfl, by decide +kernel, by decide +kernel⟩
abbrev s_law : Stmt := topS 23
theorem sc_law : FnScope ["script", "k", "bag", "turn", "grain", "some", "thing", "shown", "again"] ["script"] (defScope s_law) := ⟨rfl, rfl, rfl, by decide +kernel, rfl, by decide +kernel, by decide +kernel⟩
/-- what the top has left -/
structure Top (K : PySem.W.Frag) (w : World) (mg : Str → Option Value) (a_u_law_bag : Addr) (d_u_law_bag : FuncData) (a_is_less : Addr) (d_is_less : FuncData) (a_is_integer : Addr) (d_is_integer : FuncData) (a_common : Addr) (d_common : FuncData) (a_is_ratio : Addr) (d_is_ratio : FuncData) (a_is_span : Addr) (d_is_span : FuncData) (a_is_cuts : Addr) (d_is_cuts : FuncData) (a_u_law_take : Addr) (d_u_law_take : FuncData) (a_u_law_drawn_grain : Addr) (d_u_law_drawn_grain : FuncData) (a_u_law_part : Addr) (d_u_law_part : FuncData) (a_u_law_lowest : Addr) (d_u_law_lowest : FuncData) (a_u_law_form : Addr) (d_u_law_form : FuncData) (a_u_law_units : Addr) (d_u_law_units : FuncData) (a_u_law_odd : Addr) (d_u_law_odd : FuncData) (a_u_law_end : Addr) (d_u_law_end : FuncData) (a_u_law_changed : Addr) (d_u_law_changed : FuncData) (a_u_law_is_ratio : Addr) (d_u_law_is_ratio : FuncData) (a_u_law_is_span : Addr) (d_u_law_is_span : FuncData) (a_u_law_is_set : Addr) (d_u_law_is_set : FuncData) (a_law : Addr) (d_law : FuncData) : Prop where
  F_u_law_bag : Fun K "_law_bag" "_law_bag" s_u_law_bag a_u_law_bag d_u_law_bag
  g_u_law_bag : mg "_law_bag" = some (.ref a_u_law_bag)
  b_u_law_bag : Binds K d_u_law_bag ["script", "at"] []
  F_is_less : Fun K "is_less" "is_less" s_is_less a_is_less d_is_less
  g_is_less : mg "is_less" = some (.ref a_is_less)
  b_is_less : Binds K d_is_less ["one", "other"] []
  F_is_integer : Fun K "is_integer" "is_integer" s_is_integer a_is_integer d_is_integer
  g_is_integer : mg "is_integer" = some (.ref a_is_integer)
  b_is_integer : Binds K d_is_integer ["thing"] []
  F_common : Fun K "common" "common" s_common a_common d_common
  g_common : mg "common" = some (.ref a_common)
  b_common : Binds K d_common ["one", "other"] []
  F_is_ratio : Fun K "is_ratio" "is_ratio" s_is_ratio a_is_ratio d_is_ratio
  g_is_ratio : mg "is_ratio" = some (.ref a_is_ratio)
  b_is_ratio : Binds K d_is_ratio ["thing"] []
  F_is_span : Fun K "is_span" "is_span" s_is_span a_is_span d_is_span
  g_is_span : mg "is_span" = some (.ref a_is_span)
  b_is_span : Binds K d_is_span ["thing"] []
  F_is_cuts : Fun K "is_cuts" "is_cuts" s_is_cuts a_is_cuts d_is_cuts
  g_is_cuts : mg "is_cuts" = some (.ref a_is_cuts)
  b_is_cuts : Binds K d_is_cuts ["thing"] []
  F_u_law_take : Fun K "_law_take" "_law_take" s_u_law_take a_u_law_take d_u_law_take
  g_u_law_take : mg "_law_take" = some (.ref a_u_law_take)
  b_u_law_take : Binds K d_u_law_take ["bag", "size"] []
  F_u_law_drawn_grain : Fun K "_law_drawn_grain" "_law_drawn_grain" s_u_law_drawn_grain a_u_law_drawn_grain d_u_law_drawn_grain
  g_u_law_drawn_grain : mg "_law_drawn_grain" = some (.ref a_u_law_drawn_grain)
  b_u_law_drawn_grain : Binds K d_u_law_drawn_grain ["bag"] []
  F_u_law_part : Fun K "_law_part" "_law_part" s_u_law_part a_u_law_part d_u_law_part
  g_u_law_part : mg "_law_part" = some (.ref a_u_law_part)
  b_u_law_part : Binds K d_u_law_part ["one", "other"] []
  F_u_law_lowest : Fun K "_law_lowest" "_law_lowest" s_u_law_lowest a_u_law_lowest d_u_law_lowest
  g_u_law_lowest : mg "_law_lowest" = some (.ref a_u_law_lowest)
  b_u_law_lowest : Binds K d_u_law_lowest ["top", "under"] []
  F_u_law_form : Fun K "_law_form" "_law_form" s_u_law_form a_u_law_form d_u_law_form
  g_u_law_form : mg "_law_form" = some (.ref a_u_law_form)
  b_u_law_form : Binds K d_u_law_form ["units", "grain"] []
  F_u_law_units : Fun K "_law_units" "_law_units" s_u_law_units a_u_law_units d_u_law_units
  g_u_law_units : mg "_law_units" = some (.ref a_u_law_units)
  b_u_law_units : Binds K d_u_law_units ["bag", "grain"] []
  F_u_law_odd : Fun K "_law_odd" "_law_odd" s_u_law_odd a_u_law_odd d_u_law_odd
  g_u_law_odd : mg "_law_odd" = some (.ref a_u_law_odd)
  b_u_law_odd : Binds K d_u_law_odd ["bag"] []
  F_u_law_end : Fun K "_law_end" "_law_end" s_u_law_end a_u_law_end d_u_law_end
  g_u_law_end : mg "_law_end" = some (.ref a_u_law_end)
  b_u_law_end : Binds K d_u_law_end ["bag", "end"] []
  F_u_law_changed : Fun K "_law_changed" "_law_changed" s_u_law_changed a_u_law_changed d_u_law_changed
  g_u_law_changed : mg "_law_changed" = some (.ref a_u_law_changed)
  b_u_law_changed : Binds K d_u_law_changed ["bag", "some"] []
  F_u_law_is_ratio : Fun K "_law_is_ratio" "_law_is_ratio" s_u_law_is_ratio a_u_law_is_ratio d_u_law_is_ratio
  g_u_law_is_ratio : mg "_law_is_ratio" = some (.ref a_u_law_is_ratio)
  b_u_law_is_ratio : Binds K d_u_law_is_ratio ["thing"] []
  F_u_law_is_span : Fun K "_law_is_span" "_law_is_span" s_u_law_is_span a_u_law_is_span d_u_law_is_span
  g_u_law_is_span : mg "_law_is_span" = some (.ref a_u_law_is_span)
  b_u_law_is_span : Binds K d_u_law_is_span ["thing"] []
  F_u_law_is_set : Fun K "_law_is_set" "_law_is_set" s_u_law_is_set a_u_law_is_set d_u_law_is_set
  g_u_law_is_set : mg "_law_is_set" = some (.ref a_u_law_is_set)
  b_u_law_is_set : Binds K d_u_law_is_set ["thing"] []
  F_law : Fun K "law" "law" s_law a_law d_law
  g_law : mg "law" = some (.ref a_law)
  b_law : Binds K d_law ["script"] []
  m_abs : mg "abs" = none
  m_all : mg "all" = none
  m_bool : mg "bool" = none
  m_int : mg "int" = none
  m_isinstance : mg "isinstance" = none
  m_len : mg "len" = none
  m_list : mg "list" = none
  m_max : mg "max" = none
  m_min : mg "min" = none
  m_range : mg "range" = none
  m_repr : mg "repr" = none
  m_tuple : mg "tuple" = none
  m_zip : mg "zip" = none
  w_END : Cst K mg "END" (.tuple [(.int 1), (.int 1)])
section
variable {P : Program} {w : World} {K : PySem.W.Frag} {mg : Str → Option Value} {base : Heap} {a_u_law_bag a_is_less a_is_integer a_common a_is_ratio a_is_span a_is_cuts a_u_law_take a_u_law_drawn_grain a_u_law_part a_u_law_lowest a_u_law_form a_u_law_units a_u_law_odd a_u_law_end a_u_law_changed a_u_law_is_ratio a_u_law_is_span a_u_law_is_set a_law : Addr} {d_u_law_bag d_is_less d_is_integer d_common d_is_ratio d_is_span d_is_cuts d_u_law_take d_u_law_drawn_grain d_u_law_part d_u_law_lowest d_u_law_form d_u_law_units d_u_law_odd d_u_law_end d_u_law_changed d_u_law_is_ratio d_u_law_is_span d_u_law_is_set d_law : FuncData}
/-! ### _law_bag -/
/-- the bag of the digits: its two numbers -/
def spec_u_law_bag (ds : List PyData) (R : List PyData → Prop) : Prop := ∃ (ns : List Int) (k : Int), ds = [.list (ns.map PyData.int), .int k] ∧ 0 ≤ k ∧ k ≤ 100 ∧ ∀ a b : Int, 0 ≤ a → 0 ≤ b → b ≤ 2147483647 → R [.int a, .int b]
theorem len_u_law_bag {ds : List PyData} {R : List PyData → Prop} (h : spec_u_law_bag ds R) : (dA ds).length = 2 := by
  obtain ⟨_, _, rfl, _⟩ := h; rfl
theorem bag_end {cell k q1 q2 : Int} {R : List PyData → Prop} (hR : ∀ a b : Int, 0 ≤ a → 0 ≤ b → b ≤ 2147483647 → R [.int a, .int b]) (large : Int) (hl : 0 ≤ large) (h0 : 0 ≤ q2) (h2 : q2 < 2147483647) : R [.int large, .int (q2 + 1)] := hR _ _ hl (by omega) (by omega)
theorem ok_u_law_bag (T : Top K w mg a_u_law_bag d_u_law_bag a_is_less d_is_less a_is_integer d_is_integer a_common d_common a_is_ratio d_is_ratio a_is_span d_is_span a_is_cuts d_is_cuts a_u_law_take d_u_law_take a_u_law_drawn_grain d_u_law_drawn_grain a_u_law_part d_u_law_part a_u_law_lowest d_u_law_lowest a_u_law_form d_u_law_form a_u_law_units d_u_law_units a_u_law_odd d_u_law_odd a_u_law_end d_u_law_end a_u_law_changed d_u_law_changed a_u_law_is_ratio d_u_law_is_ratio a_u_law_is_span d_u_law_is_span a_u_law_is_set d_u_law_is_set a_law d_law)  :
    FnOkG P w K mg base 1 a_u_law_bag d_u_law_bag ["script", "at"] (upF K (newF spec_u_law_bag)) := by
  refine okP (k := 0) T.F_u_law_bag sc_u_law_bag (n := 6) rfl ?len (fun cdv A outer s H E hr hgs => (wss_cons (ws_set (i := 2) sc_u_law_bag.nd rfl (.inl rfl) (w_tup (wa_cons w_int (wa_cons w_int (wa_cons w_int (wa_cons w_int (wa_cons w_int (wa_cons w_int (wa_cons w_int wa_nil)))))))))
      (wss_cons (ws_set (i := 3) sc_u_law_bag.nd rfl (.inl rfl) (we_ifExp (wt_lt (w_var 1) (w_bi ok_len (wa_cons (w_var 0) wa_nil) (fun t h => pe_callB (call_len_seq.or call_len_str) (by rfl) T.m_len (by decide +kernel) h))) (w_ixJ (w_var 0) (w_var 1) (fun _ _ => rfl)) w_int))
      (wss_cons (ws_set (i := 4) sc_u_law_bag.nd rfl (.inl rfl) (we_ifExp (wt_ge (w_bi ok_abs (wa_cons (w_var 3) wa_nil) (fun t h => pe_callB call_abs (by rfl) T.m_abs (by decide +kernel) h)) (w_pow w_int w_int)) (w_bi ok_abs (wa_cons (w_var 3) wa_nil) (fun t h => pe_callB call_abs (by rfl) T.m_abs (by decide +kernel) h)) w_int))
      (wss_cons (ws_setJ (i := 5) sc_u_law_bag.nd rfl (.inl rfl) (w_mod (w_pow (w_add (w_add (w_mod (w_var 3) w_int) (w_mul w_int (w_var 1))) w_int) w_int) (w_ixJ (w_var 2) (w_mod (w_var 1) w_int) (fun _ _ => rfl))))
      (wss_one (ws_retN (wn_list (wa_cons (w_var 4) (wa_cons (w_add (w_mod (w_mul (w_var 5) (w_add (w_add (w_fdiv (w_var 5) w_int) (w_mul w_int (w_var 1))) w_int)) (w_ixJ (w_var 2) (w_mod (w_add (w_var 1) w_int) w_int) (fun _ _ => rfl))) w_int) wa_nil)))))))))) ?body
  case len =>
    rintro args S R ⟨rfl, ds, R0, rfl, h, q⟩
    exact len_u_law_bag h
  case body =>
    rintro args S R ⟨rfl, ds, R0, rfl, h, q⟩
    obtain ⟨ns, kk, rfl, h0, h1, hR⟩ := h
    have primes : ∀ i : Int, 0 ≤ i → i < 7 → ∃ p : Int, ixD [.int 2147483647, .int 2147483629, .int 2147483587, .int 2147483579, .int 2147483563, .int 2147483549, .int 2147483543] i = some (.int p) ∧ 0 < p ∧ p ≤ 2147483647 := by
      intro i a b
      have : i = 0 ∨ i = 1 ∨ i = 2 ∨ i = 3 ∨ i = 4 ∨ i = 5 ∨ i = 6 := by omega
      rcases this with rfl | rfl | rfl | rfl | rfl | rfl | rfl <;> exact ⟨_, rfl, by decide, by decide⟩
    obtain ⟨p1, e1, a1, b1⟩ := primes (kk % 7) (Int.emod_nonneg _ (by decide)) (Int.emod_lt_of_pos _ (by decide))
    obtain ⟨p2, e2, a2, b2⟩ := primes ((kk + 2) % 7) (Int.emod_nonneg _ (by decide)) (Int.emod_lt_of_pos _ (by decide))
    walk_at "w"
    refine j_ie (fun v => ∃ c : Int, v = .int c) ?_ ?_
    · by_cases hc : kk < ns.length
      · obtain ⟨v, hv⟩ := ix_map (ns := ns) h0 hc
        refine ⟨_, ⟨v, rfl⟩, fun k' hk => tie_ (brT (decide_eq_true (by rw [List.length_map]; exact hc)) (ix_ok hv hk))⟩
      · exact ⟨_, ⟨0, rfl⟩, fun k' hk => tie_ (brF (decide_eq_false (by rw [List.length_map]; exact hc)) hk)⟩
    rintro _ ⟨cell, rfl⟩
    walk_at "w"
    refine j_ie (fun v => ∃ c : Int, v = .int c ∧ 0 ≤ c) ?_ ?_
    · by_cases hc : (10 : Int) ^ Int.toNat 18 ≤ (if cell < 0 then -cell else cell)
      · exact ⟨_, ⟨if cell < 0 then -cell else cell, rfl, by split <;> omega⟩, fun k' hk => tie_ ⟨by decide, brT (decide_eq_true hc) hk⟩⟩
      · exact ⟨_, ⟨0, rfl, by decide⟩, fun k' hk => tie_ ⟨by decide, brF (decide_eq_false hc) hk⟩⟩
    rintro _ ⟨large, rfl, hl⟩
    have m0 := Int.emod_nonneg cell (show (2305843009213693951 : Int) ≠ 0 by decide)
    have m1 := Int.emod_lt_of_pos cell (show (0 : Int) < 2305843009213693951 by decide)
    walk_at "w"
    refine j_st (fun v => ∃ m : Int, v = .int m ∧ 0 ≤ m ∧ m ≤ 2147483647) ?_ ?_
    · exact ⟨_, ⟨_, rfl, Int.emod_nonneg _ (show p1 ≠ 0 by omega), Int.le_trans (Int.le_of_lt (Int.emod_lt_of_pos _ a1)) b1⟩, fun k' hk => ⟨pos, mulP (m := 40) (n := 40) (by decide) (by omega), ⟨by decide, by decide, by omega⟩, pos, ix_ok e1 ⟨a1, hk⟩⟩⟩
    rintro _ ⟨mixed, rfl, x0, x1⟩
    refine ⟨⟨pos, by show (Int.natAbs 5).log2 < 9000; decide⟩, mulP (m := 40) (n := 40) (by decide) (by omega), mulP (m := 40) (n := 40) (by omega) (by omega), pos, ix_ok e2 ⟨a2, ?_⟩⟩
    have y0 := Int.emod_nonneg (mixed * (mixed / 5 + 3 * kk + 11)) (show p2 ≠ 0 by omega)
    have y1 := Int.emod_lt_of_pos (mixed * (mixed / 5 + 3 * kk + 11)) a2
    exact q _ (hR _ _ hl (by omega) (by omega)) 0 [_] rfl
/-! ### is_less -/

theorem ok_is_less (T : Top K w mg a_u_law_bag d_u_law_bag a_is_less d_is_less a_is_integer d_is_integer a_common d_common a_is_ratio d_is_ratio a_is_span d_is_span a_is_cuts d_is_cuts a_u_law_take d_u_law_take a_u_law_drawn_grain d_u_law_drawn_grain a_u_law_part d_u_law_part a_u_law_lowest d_u_law_lowest a_u_law_form d_u_law_form a_u_law_units d_u_law_units a_u_law_odd d_u_law_odd a_u_law_end d_u_law_end a_u_law_changed d_u_law_changed a_u_law_is_ratio d_u_law_is_ratio a_u_law_is_span d_u_law_is_span a_u_law_is_set d_u_law_is_set a_law d_law)  :
    FnOkG P w K mg base 1 a_is_less d_is_less ["one", "other"] (upF K (pur (spec_two 3900 lessD))) := by
  refine okP (k := 0) T.F_is_less sc_is_less (n := 2) rfl ?len (fun cdv A outer s H E hr hgs => (wss_one (ws_ret (w_lt (w_mul (w_ix (w_var 0) w_int (fun _ _ => rfl)) (w_ix (w_var 1) w_int (fun _ _ => rfl))) (w_mul (w_ix (w_var 1) w_int (fun _ _ => rfl)) (w_ix (w_var 0) w_int (fun _ _ => rfl))))))) ?body
  case len =>
    rintro args S R ⟨rfl, ds, R0, rfl, h, q⟩
    exact len_two h
  case body =>
    rintro args S R ⟨rfl, ds, R0, rfl, h, q⟩
    obtain ⟨a, b, c, d, rfl, h1, h2, ⟨ba, bb, bc, bd⟩, hR⟩ := h
    exact ⟨mulP ba bd, mulP bc bb, q _ hR []⟩
/-! ### is_integer -/
def spec_is_integer (ds : List PyData) (R : PyData → Prop) : Prop := ∃ d, ds = [d] ∧ R (.bool (isInt d))
theorem len_is_integer {ds : List PyData} {R : PyData → Prop} (h : spec_is_integer ds R) : (dA ds).length = 1 := by
  obtain ⟨_, rfl, _⟩ := h; rfl
theorem ok_is_integer (T : Top K w mg a_u_law_bag d_u_law_bag a_is_less d_is_less a_is_integer d_is_integer a_common d_common a_is_ratio d_is_ratio a_is_span d_is_span a_is_cuts d_is_cuts a_u_law_take d_u_law_take a_u_law_drawn_grain d_u_law_drawn_grain a_u_law_part d_u_law_part a_u_law_lowest d_u_law_lowest a_u_law_form d_u_law_form a_u_law_units d_u_law_units a_u_law_odd d_u_law_odd a_u_law_end d_u_law_end a_u_law_changed d_u_law_changed a_u_law_is_ratio d_u_law_is_ratio a_u_law_is_span d_u_law_is_span a_u_law_is_set d_u_law_is_set a_law d_law)  :
    FnOkG P w K mg base 1 a_is_integer d_is_integer ["thing"] (upF K (pur spec_is_integer)) := by
  refine okP (k := 0) T.F_is_integer sc_is_integer (n := 1) rfl ?len (fun cdv A outer s H E hr hgs => (wss_one (ws_ret (we_and (w_isi .int (by rfl) T.m_isinstance (by rfl) T.m_int (by decide +kernel) (w_var 0) (fun t h => pe_callB call_isi (by rfl) T.m_isinstance (by decide +kernel) (pa_cons h (pa_cons (pe_bltn (v := .ty "int") (by rfl) T.m_int (by decide +kernel) rfl) pa_nil)))) (we_one (we_not (w_isi .bool (by rfl) T.m_isinstance (by rfl) T.m_bool (by decide +kernel) (w_var 0) (fun t h => pe_callB call_isi (by rfl) T.m_isinstance (by decide +kernel) (pa_cons h (pa_cons (pe_bltn (v := .ty "bool") (by rfl) T.m_bool (by decide +kernel) rfl) pa_nil)))))))))) ?body
  case len =>
    rintro args S R ⟨rfl, ds, R0, rfl, h, q⟩
    exact len_is_integer h
  case body =>
    rintro args S R ⟨rfl, ds, R0, rfl, h, q⟩
    obtain ⟨d, rfl, hR⟩ := h
    cases d <;> exact q _ hR []
/-! ### common -/

theorem ok_common (T : Top K w mg a_u_law_bag d_u_law_bag a_is_less d_is_less a_is_integer d_is_integer a_common d_common a_is_ratio d_is_ratio a_is_span d_is_span a_is_cuts d_is_cuts a_u_law_take d_u_law_take a_u_law_drawn_grain d_u_law_drawn_grain a_u_law_part d_u_law_part a_u_law_lowest d_u_law_lowest a_u_law_form d_u_law_form a_u_law_units d_u_law_units a_u_law_odd d_u_law_odd a_u_law_end d_u_law_end a_u_law_changed d_u_law_changed a_u_law_is_ratio d_u_law_is_ratio a_u_law_is_span d_u_law_is_span a_u_law_is_set d_u_law_is_set a_law d_law)  :
    FnOkG P w K mg base 1 a_common d_common ["one", "other"] (upF K (pur spec_gcd)) := by
  refine okP (k := 0) T.F_common sc_common (n := 2) rfl ?len (fun cdv A outer s H E hr hgs => (wss_cons (ws_while PassesOwn.never (wt_ne hr (w_var 1) w_int) (wss_one (ws_par (i := 0) (j := 1) rfl sc_common.nd rfl rfl (by decide) rfl rfl (wa_cons (w_var 1) (wa_cons (w_modS (w_var 0) (w_var 1)) wa_nil)) (by rfl))))
      (wss_one (ws_ret (w_bi ok_abs (wa_cons (w_var 0) wa_nil) (fun t h => pe_callB call_abs (by rfl) T.m_abs (by decide +kernel) h)))))) ?body
  case len =>
    rintro args S R ⟨rfl, ds, R0, rfl, h, q⟩
    exact len_gcd h
  case body =>
    rintro args S R ⟨rfl, ds, R0, rfl, h, q⟩
    obtain ⟨a, b, rfl, hR⟩ := h
    refine ⟨fun m ρ S => ∃ x y : Int, ρ = [some (.d (.int x)), some (.d (.int y))] ∧ S = [] ∧ m = y.natAbs ∧ Int.gcd x y = Int.gcd a b, ⟨_, a, b, rfl, rfl, rfl, rfl⟩, ?_⟩
    rintro m _ _ ⟨x, y, rfl, rfl, rfl, hg⟩
    walk_at "w"
    refine brN (fun hy => ?_) (fun hy => ?_)
    · exact ⟨hy, .inl ⟨_, fmod_abs_lt x hy, y, x.fmod y, rfl, rfl, rfl, by rw [gcd_fmod, hg]⟩⟩
    · subst hy
      refine q _ ?_ []
      rw [gcd_end, hg]; exact hR
/-! ### is_ratio -/

theorem ok_is_ratio (T : Top K w mg a_u_law_bag d_u_law_bag a_is_less d_is_less a_is_integer d_is_integer a_common d_common a_is_ratio d_is_ratio a_is_span d_is_span a_is_cuts d_is_cuts a_u_law_take d_u_law_take a_u_law_drawn_grain d_u_law_drawn_grain a_u_law_part d_u_law_part a_u_law_lowest d_u_law_lowest a_u_law_form d_u_law_form a_u_law_units d_u_law_units a_u_law_odd d_u_law_odd a_u_law_end d_u_law_end a_u_law_changed d_u_law_changed a_u_law_is_ratio d_u_law_is_ratio a_u_law_is_span d_u_law_is_span a_u_law_is_set d_u_law_is_set a_law d_law) (G_is_integer : FnOkG P w K mg base 1 a_is_integer d_is_integer ["thing"] (upF K (pur spec_is_integer))) (G_common : FnOkG P w K mg base 1 a_common d_common ["one", "other"] (upF K (pur spec_gcd))) :
    FnOkG P w K mg base 2 a_is_ratio d_is_ratio ["thing"] (upF K (pur spec_is_ratio)) := by
  refine okP (k := 1) T.F_is_ratio sc_is_ratio (n := 3) rfl ?len (fun cdv A outer s H E hr hgs => (wss_cons (ws_if (WW.wt (ww_or (wt_not (w_val (w_isi .tuple (by rfl) T.m_isinstance (by rfl) T.m_tuple (by decide +kernel) (w_var 0) (fun t h => pe_callB call_isi (by rfl) T.m_isinstance (by decide +kernel) (pa_cons h (pa_cons (pe_bltn (v := .ty "tuple") (by rfl) T.m_tuple (by decide +kernel) rfl) pa_nil)))))) (ww_or1 (wt_ne hr (w_bi ok_len (wa_cons (w_var 0) wa_nil) (fun t h => pe_callB (call_len_seq.or call_len_str) (by rfl) T.m_len (by decide +kernel) h)) w_int)))) (wss_one (ws_ret w_bl)) wss_nil)
      (wss_cons (ws_asg (w_var 0) (wg_tup (n := 2) rfl (wgs_cons (wg_name (i := 1) sc_is_ratio.nd rfl (.inl rfl)) (wgs_cons (wg_name (i := 2) sc_is_ratio.nd rfl (.inl rfl)) wgs_nil))))
      (wss_one (ws_ret (we_and (w_call G_is_integer hr hgs (by rfl) T.g_is_integer T.F_is_integer.kp T.b_is_integer (wa_cons (w_var 1) wa_nil)) (we_and (w_call G_is_integer hr hgs (by rfl) T.g_is_integer T.F_is_integer.kp T.b_is_integer (wa_cons (w_var 2) wa_nil)) (we_and (w_gt (w_var 2) w_int) (we_one (w_eq hr (w_call G_common hr hgs (by rfl) T.g_common T.F_common.kp T.b_common (wa_cons (w_var 1) (wa_cons (w_var 2) wa_nil))) w_int)))))))))) ?body
  case len =>
    rintro args S R ⟨rfl, ds, R0, rfl, h, q⟩
    exact len_is_ratio h
  case body =>
    rintro args S R ⟨rfl, ds, R0, rfl, h, q⟩
    obtain ⟨d, rfl, hR⟩ := h
    cases d with
    | tuple xs =>
      walk_at "w"
      refine brN (fun hl => ?_) (fun hl => ?_)
      · refine q _ ?_ []
        match xs, hR, hl with
        | [], hR, _ => exact hR
        | [_], hR, _ => simp only [ratioB] at hR; exact hR
        | [_, _], _, hl => exact absurd rfl hl
        | _ :: _ :: _ :: _, hR, _ => simp only [ratioB] at hR; exact hR
      match xs, hR, hl with
      | [x, y], hR, _ =>
        refine lenI ?_
        refine ⟨x, rfl, ?_⟩
        cases x with
        | int t =>
          refine ⟨y, rfl, ?_⟩
          cases y with
          | int u =>
            walk_at "w"
            refine brB (fun h => ?_) (fun h => ?_)
            · refine ⟨t, u, rfl, ?_⟩
              simp only [ratioB, h, Bool.true_and] at hR
              exact q _ hR []
            · simp only [ratioB, h, Bool.false_and] at hR
              exact q _ hR []
          | _ => exact q _ hR []
        | _ => exact q _ hR []
      | [], _, hl => simp at hl
      | [_], _, hl => simp at hl
      | _ :: _ :: _ :: _, _, hl => simp only [List.length_cons] at hl; omega
    | _ => exact q _ hR []
/-! ### entries -/
structure Ent where
  first : Int
  many : Int
  am : List (Int × Int)
@[reducible] def ratD (r : Int × Int) : PyData := .tuple [.int r.1, .int r.2]
@[reducible] def entD (e : Ent) : PyData := .tuple [.str "entry", .int e.first, .int e.many, .tuple (e.am.map ratD)]
structure AmOk (r : Int × Int) : Prop where
  ok : RatOk r.1 r.2
  top : r.1.natAbs ≤ 10 ^ 6
  und : r.2 ≤ 10 ^ 6
structure EntOk (e : Ent) : Prop where
  f0 : 0 ≤ e.first
  m1 : 1 ≤ e.many
  sum : e.first + e.many ≤ 10 ^ 30
  l1 : 1 ≤ e.am.length
  l4 : e.am.length ≤ 4
  ams : ∀ r ∈ e.am, AmOk r
/-- the least common multiple -/
def lcmZ (g u : Int) : Int := g * u / (Int.gcd g u : Nat)
theorem lcmZ_ok {g u : Int} (hg : 0 < g) (hu : 0 < u) : 0 < lcmZ g u ∧ g ∣ lcmZ g u ∧ u ∣ lcmZ g u ∧ lcmZ g u ≤ g * u ∧ lcmZ g u = g * (u / (Int.gcd g u : Nat)) := by
  have hp : (0 : Int) < (Int.gcd g u : Nat) := by exact_mod_cast Int.gcd_pos_of_ne_zero_right g (Int.ne_of_gt hu)
  have d1 : ((Int.gcd g u : Nat) : Int) ∣ u := Int.gcd_dvd_right g u
  have d2 : ((Int.gcd g u : Nat) : Int) ∣ g := Int.gcd_dvd_left g u
  have e1 : lcmZ g u = g * (u / (Int.gcd g u : Nat)) := by unfold lcmZ; rw [Int.mul_ediv_assoc g d1]
  have e2 : lcmZ g u = u * (g / (Int.gcd g u : Nat)) := by unfold lcmZ; rw [Int.mul_comm g u, Int.mul_ediv_assoc u d2]
  have q : 0 < u / (Int.gcd g u : Nat) := Int.ediv_pos_of_pos_of_dvd hu (Int.le_of_lt hp) d1
  have q2 : u / (Int.gcd g u : Nat) ≤ u := Int.ediv_le_self _ (Int.le_of_lt hu)
  refine ⟨by rw [e1]; exact Int.mul_pos hg q, ⟨_, e1⟩, ⟨_, e2⟩, by rw [e1]; exact Int.mul_le_mul_of_nonneg_left q2 (Int.le_of_lt hg), e1⟩
def gr1 (g : Int) (am : List (Int × Int)) : Int := am.foldl (fun g r => lcmZ g r.2) g
def grain (es : List Ent) : Int := es.foldl (fun g e => gr1 g e.am) 1
theorem gr1_ok : ∀ {am : List (Int × Int)} {g : Int}, 0 < g → (∀ r ∈ am, AmOk r) → 0 < gr1 g am ∧ g ∣ gr1 g am ∧ (∀ r ∈ am, r.2 ∣ gr1 g am) ∧ gr1 g am ≤ g * (10 ^ 6) ^ am.length
  | [], g, hg, _ => ⟨hg, Int.dvd_refl _, fun r hr => (by cases hr), by rw [List.length_nil, Int.pow_zero, Int.mul_one]; exact Int.le_refl _⟩
  | r :: am, g, hg, h => by
    have hr := h r (by simp)
    obtain ⟨a1, a2, a3, a4, _⟩ := lcmZ_ok hg hr.ok.1
    obtain ⟨b1, b2, b3, b4⟩ := gr1_ok (am := am) a1 fun x hx => h x (by simp [hx])
    refine ⟨b1, Int.dvd_trans a2 b2, fun x hx => ?_, Int.le_trans b4 ?_⟩
    · rcases List.mem_cons.mp hx with rfl | hx
      · exact Int.dvd_trans a3 b2
      · exact b3 x hx
    · have p : (0 : Int) ≤ (10 ^ 6) ^ am.length := Int.le_of_lt (Int.pow_pos (by decide))
      rw [List.length_cons, Int.pow_succ (10 ^ 6) am.length, Int.mul_comm ((10 ^ 6) ^ am.length) (10 ^ 6), ← Int.mul_assoc]
      refine Int.mul_le_mul_of_nonneg_right (Int.le_trans a4 ?_) p
      exact Int.mul_le_mul_of_nonneg_left hr.und (Int.le_of_lt hg)
theorem grain_ok' : ∀ {es : List Ent} {g : Int}, 0 < g → (∀ e ∈ es, EntOk e) → 0 < es.foldl (fun g e => gr1 g e.am) g ∧ g ∣ es.foldl (fun g e => gr1 g e.am) g ∧ (∀ e ∈ es, ∀ r ∈ e.am, r.2 ∣ es.foldl (fun g e => gr1 g e.am) g) ∧
    es.foldl (fun g e => gr1 g e.am) g ≤ g * (10 ^ 24) ^ es.length
  | [], g, hg, _ => ⟨hg, Int.dvd_refl _, fun r hr => (by cases hr), by rw [List.length_nil, Int.pow_zero, Int.mul_one]; exact Int.le_refl _⟩
  | e :: es, g, hg, h => by
    have he := h e (by simp)
    obtain ⟨a1, a2, a3, a4⟩ := gr1_ok hg he.ams
    obtain ⟨b1, b2, b3, b4⟩ := grain_ok' (es := es) a1 fun x hx => h x (by simp [hx])
    refine ⟨b1, Int.dvd_trans a2 b2, fun x hx r hr => ?_, Int.le_trans b4 ?_⟩
    · rcases List.mem_cons.mp hx with rfl | hx
      · exact Int.dvd_trans (a3 r hr) b2
      · exact b3 x hx r hr
    · have p : (0 : Int) ≤ (10 ^ 24) ^ es.length := Int.le_of_lt (Int.pow_pos (by decide))
      rw [List.length_cons, Int.pow_succ (10 ^ 24) es.length, Int.mul_comm ((10 ^ 24) ^ es.length) (10 ^ 24), ← Int.mul_assoc]
      refine Int.mul_le_mul_of_nonneg_right (Int.le_trans a4 ?_) p
      refine Int.mul_le_mul_of_nonneg_left ?_ (Int.le_of_lt hg)
      have : ((10 ^ 6 : Int)) ^ e.am.length ≤ (10 ^ 6) ^ 4 := by
        have l := he.l4
        have : e.am.length = 0 ∨ e.am.length = 1 ∨ e.am.length = 2 ∨ e.am.length = 3 ∨ e.am.length = 4 := by omega
        rcases this with z | z | z | z | z <;> rw [z] <;> decide
      exact Int.le_trans this (by decide)
theorem pow6 {n : Nat} (h : n ≤ 4) : ((10 : Int) ^ 6) ^ n ≤ 10 ^ 24 := by
  have : n = 0 ∨ n = 1 ∨ n = 2 ∨ n = 3 ∨ n = 4 := by omega
  rcases this with z | z | z | z | z <;> rw [z] <;> decide
theorem gr1_big {am : List (Int × Int)} {g : Int} (hg : 0 < g) (hb : g.natAbs < 2 ^ 700) (h : ∀ r ∈ am, AmOk r) (hl : am.length ≤ 4) : (gr1 g am).natAbs < 2 ^ 800 := by
  obtain ⟨a1, _, _, a4⟩ := gr1_ok hg h
  have l := Int.le_trans a4 (Int.mul_le_mul_of_nonneg_left (pow6 hl) (Int.le_of_lt hg))
  have m : (g * 10 ^ 24).natAbs < 2 ^ 800 := by
    rw [Int.natAbs_mul]
    exact Nat.lt_of_lt_of_le (Nat.mul_lt_mul_of_pos_right hb (by decide)) (by decide)
  omega
theorem low_pos {t u : Int} (h : 0 < u) : lowD t u = .tuple [.int (t / (Int.gcd t u : Nat)), .int (u / (Int.gcd t u : Nat))] := by
  have s : sgd t u = (Int.gcd t u : Nat) := by unfold sgd; rw [if_neg (by omega)]
  have p : (0 : Int) ≤ (Int.gcd t u : Nat) := Int.natCast_nonneg _
  unfold lowD
  rw [s, Int.fdiv_eq_ediv_of_nonneg _ p, Int.fdiv_eq_ediv_of_nonneg _ p]
/-- a number of units that suits the entries -/
structure GrOk (es : List Ent) (g : Int) : Prop where
  pos : 0 < g
  big : g.natAbs < 2 ^ 700
  dvd : ∀ e ∈ es, ∀ r ∈ e.am, r.2 ∣ g
theorem pow24 : ∀ n : Nat, n ≤ 8 → ((10 : Int) ^ 24) ^ n ≤ 10 ^ 192 := fun n h => by
  have : n = 0 ∨ n = 1 ∨ n = 2 ∨ n = 3 ∨ n = 4 ∨ n = 5 ∨ n = 6 ∨ n = 7 ∨ n = 8 := by omega
  rcases this with rfl | rfl | rfl | rfl | rfl | rfl | rfl | rfl | rfl <;> decide
theorem grain_ok {es : List Ent} (h : ∀ e ∈ es, EntOk e) (hl : es.length ≤ 8) : GrOk es (grain es) := by
  obtain ⟨a, _, c, d⟩ := grain_ok' (es := es) (g := 1) (by decide) h
  have l := pow24 es.length hl
  have d' : grain es ≤ 10 ^ 192 := by unfold grain; omega
  have a' : 0 < grain es := a
  refine ⟨a, Nat.lt_of_le_of_lt (m := 10 ^ 192) ?_ (by decide), c⟩
  have : ((grain es).natAbs : Int) = grain es := by omega
  have q : ((grain es).natAbs : Int) ≤ ((10 ^ 192 : Nat) : Int) := by rw [this]; exact_mod_cast d'
  exact_mod_cast q
/-! ### sums before days, in units -/
def pieces (e : Ent) (g : Int) : List Int := e.am.map fun r => r.1 * (g / r.2)
def days (e : Ent) (d : Int) : Int := if e.many < (if 0 > d - e.first then 0 else d - e.first) then e.many else (if 0 > d - e.first then 0 else d - e.first)
theorem days_in {e : Ent} (h : EntOk e) (d : Int) : 0 ≤ days e d ∧ days e d ≤ e.many := by
  have := h.m1
  unfold days; split <;> (try split) <;> omega
def bef (e : Ent) (g d : Int) : Int := days e d / e.am.length * (pieces e g).sum + ((pieces e g).take (days e d % e.am.length).toNat).sum
def before (es : List Ent) (g d : Int) : Int := (es.map fun e => bef e g d).sum

theorem piece_big {r : Int × Int} {g : Int} (h : AmOk r) (hg : g.natAbs < 2 ^ 700) : (r.1 * (g / r.2)).natAbs < 2 ^ 720 := by
  have d := div_le g h.ok.1
  have t : r.1.natAbs < 2 ^ 20 := Nat.lt_of_le_of_lt h.top (by decide)
  exact mul_lt t (Nat.lt_of_le_of_lt d hg) (by decide)
theorem sum_big {k : Nat} : ∀ {xs : List Int}, (∀ x ∈ xs, x.natAbs < 2 ^ k) → xs.sum.natAbs ≤ xs.length * 2 ^ k
  | [], _ => by simp
  | x :: xs, h => by
    have h1 := h x (by simp)
    have h2 := sum_big (xs := xs) fun y hy => h y (by simp [hy])
    rw [List.sum_cons, List.length_cons, Nat.add_mul]
    omega
theorem pieces_big {e : Ent} {g : Int} (h : EntOk e) (hg : g.natAbs < 2 ^ 700) : ∀ x ∈ pieces e g, x.natAbs < 2 ^ 720 := fun x hx => by
  obtain ⟨r, hr, rfl⟩ := List.mem_map.mp hx
  exact piece_big (h.ams r hr) hg
theorem pieces_len (e : Ent) (g : Int) : (pieces e g).length = e.am.length := List.length_map _
theorem sum_small {e : Ent} {g : Int} (h : EntOk e) (hg : g.natAbs < 2 ^ 700) : (pieces e g).sum.natAbs < 2 ^ 723 ∧ ∀ n, ((pieces e g).take n).sum.natAbs < 2 ^ 723 := by
  have l := h.l4
  have gen : ∀ xs : List Int, (∀ x ∈ xs, x.natAbs < 2 ^ 720) → xs.length ≤ 4 → xs.sum.natAbs < 2 ^ 723 := fun xs hx hl => by
    have := sum_big hx
    have q : xs.length * 2 ^ 720 ≤ 4 * 2 ^ 720 := Nat.mul_le_mul_right _ hl
    have : (4 : Nat) * 2 ^ 720 < 2 ^ 723 := by decide
    omega
  refine ⟨gen _ (pieces_big h hg) (by rw [pieces_len]; omega), fun n => gen _ (fun x hx => pieces_big h hg x (List.mem_of_mem_take hx)) ?_⟩
  rw [List.length_take, pieces_len]; omega
theorem bef_big {e : Ent} {g : Int} (h : EntOk e) (hg : g.natAbs < 2 ^ 700) (d : Int) : (bef e g d).natAbs < 2 ^ 900 := by
  obtain ⟨h1, h2⟩ := sum_small h hg
  obtain ⟨d0, d1⟩ := days_in h d
  have l0 : (0 : Int) < e.am.length := by have := h.l1; omega
  have q := div_le (days e d) l0
  have s := h.sum
  have f := h.f0
  have dd : (days e d).natAbs < 2 ^ 100 := Nat.lt_of_le_of_lt (m := 10 ^ 30) (by omega) (by decide)
  exact add_lt (m := 860) (mul_lt (Nat.lt_of_le_of_lt q dd) h1 (by decide)) (lt_up (h2 _) (by decide)) (by decide)
theorem before_big {es : List Ent} {g : Int} (h : ∀ e ∈ es, EntOk e) (hl : es.length ≤ 8) (hg : g.natAbs < 2 ^ 700) (d : Int) : (before es g d).natAbs < 2 ^ 910 := by
  have := sum_big (k := 900) (xs := es.map fun e => bef e g d) fun x hx => by
    obtain ⟨e, he, rfl⟩ := List.mem_map.mp hx
    exact bef_big (h e he) hg d
  rw [List.length_map] at this
  have q : es.length * 2 ^ 900 ≤ 8 * 2 ^ 900 := Nat.mul_le_mul_right _ hl
  have : (8 : Nat) * 2 ^ 900 < 2 ^ 910 := by decide
  unfold before; omega
/-- what a unit of the ring tells for the days from i to j - 1 -/
def toldBy (es : List Ent) (g u i j : Int) : Int := (before es g j + u) / g - (before es g i + u) / g
/-- a statement -/
structure Sta where
  first : Int
  many : Int
  num : Int
@[reducible] def staD (s : Sta) : PyData := .tuple [.str "statement", .int s.first, .int s.many, .int s.num]
structure StaOk (s : Sta) : Prop where
  f0 : 0 ≤ s.first
  m1 : 1 ≤ s.many
  sum : s.first + s.many ≤ 10 ^ 30
  num : s.num.natAbs < 2 ^ 930
/-- entries and statements that are drawn, on days up to a last one -/
structure CaseOk (es : List Ent) (ss : List Sta) (last : Int) (ne ns : Nat) : Prop where
  eo : ∀ e ∈ es, EntOk e
  el : ∀ e ∈ es, e.first + e.many ≤ last + 1
  en : es.length ≤ ne
  so : ∀ s ∈ ss, StaOk s
  sl : ∀ s ∈ ss, s.first + s.many ≤ last + 1
  sn : ss.length ≤ ns
/-! ### texts -/
theorem shw_rat {n : Nat} {a b : Int} (ha : a.natAbs < 2 ^ 1900) (hb : b.natAbs < 2 ^ 1900) : Shw 4007 (n + 1) (.tuple [.int a, .int b]) := by
  refine (shw_tup (b := 2000) (n := n) (m := 2) (fun x hx => ?_) (by simp)).up (by decide) (Nat.le_refl _)
  simp only [List.mem_cons, List.not_mem_nil, or_false] at hx
  rcases hx with rfl | rfl
  · exact shw_int ha (by decide)
  · exact shw_int hb (by decide)
theorem shw_low {n : Nat} {x g : Int} (hg : g ≠ 0) (hx : x.natAbs < 2 ^ 1900) (hb : g.natAbs < 2 ^ 1900) : Shw 4007 (n + 1) (lowD x g) := by
  obtain ⟨a, b, e, _, _, h1, h2⟩ := low_is (t := x) hg
  rw [e]
  exact shw_rat (by omega) (by omega)
theorem shw_ent {n : Nat} {e : Ent} (h : EntOk e) : Shw 70000 (n + 3) (entD e) := by
  have p : (10 : Nat) ^ 30 < 2 ^ 1900 := by decide
  have f0 := h.f0
  have m1 := h.m1
  have s := h.sum
  refine (shw_tup (b := 17000) (n := n + 2) (m := 4) (fun x hx => ?_) (by simp)).up (by decide) (Nat.le_refl _)
  simp only [List.mem_cons, List.not_mem_nil, or_false] at hx
  rcases hx with rfl | rfl | rfl | rfl
  · exact shw_str _ (by decide +kernel)
  · exact (shw_int (m := 1900) (Nat.lt_of_le_of_lt (m := 10 ^ 30) (by omega) p) (by decide)).up (by decide) (Nat.le_refl _)
  · exact (shw_int (m := 1900) (Nat.lt_of_le_of_lt (m := 10 ^ 30) (by omega) p) (by decide)).up (by decide) (Nat.le_refl _)
  · refine (shw_tup (b := 4007) (n := n + 1) (m := 4) (fun x hx => ?_) (by rw [List.length_map]; exact h.l4)).up (by decide) (Nat.le_refl _)
    obtain ⟨r, hr, rfl⟩ := List.mem_map.mp hx
    have a := h.ams r hr
    have q : (10 : Nat) ^ 6 < 2 ^ 1900 := by decide
    exact shw_rat (Nat.lt_of_le_of_lt a.top q) (Nat.lt_of_le_of_lt (by have := a.und; have := a.ok.1; omega) q)
theorem shw_ents {es : List Ent} (h : ∀ e ∈ es, EntOk e) (hl : es.length ≤ 8) : Shw 600000 4 (.list (es.map entD)) := by
  refine (shw_list (b := 70000) (n := 3) (m := 8) (fun x hx => ?_) (by rw [List.length_map]; exact hl)).up (by decide) (Nat.le_refl _)
  obtain ⟨e, he, rfl⟩ := List.mem_map.mp hx
  exact shw_ent (n := 0) (h e he)

/-! ### sets of units -/
def mx (a b : Int) : Int := if b > a then b else a
def mn (a b : Int) : Int := if b < a then b else a
def Norm : Int → Int → List (Int × Int) → Prop
  | _, _, [] => True
  | lo, hi, s :: r => lo ≤ s.1 ∧ s.1 < s.2 ∧ s.2 ≤ hi ∧ Norm (s.2 + 1) hi r
def memS (sp : List (Int × Int)) (u : Int) : Prop := ∃ s ∈ sp, s.1 ≤ u ∧ u < s.2
theorem memS_nil {u : Int} : ¬ memS [] u := fun ⟨_, h, _⟩ => by cases h
theorem memS_cons {s : Int × Int} {r : List (Int × Int)} {u : Int} : memS (s :: r) u ↔ (s.1 ≤ u ∧ u < s.2) ∨ memS r u := by
  constructor
  · rintro ⟨t, ht, h⟩
    rcases List.mem_cons.mp ht with rfl | ht
    · exact .inl h
    · exact .inr ⟨t, ht, h⟩
  · rintro (h | ⟨t, ht, h⟩)
    · exact ⟨s, by simp, h⟩
    · exact ⟨t, by simp [ht], h⟩
theorem memS_app {x y : List (Int × Int)} {u : Int} : memS (x ++ y) u ↔ memS x u ∨ memS y u := by
  induction x with
  | nil => simp [memS_nil]
  | cons s x ih => rw [List.cons_append, memS_cons, memS_cons, ih]; exact or_assoc.symm
theorem Norm.mono : ∀ {sp : List (Int × Int)} {lo hi lo' hi' : Int}, Norm lo hi sp → lo' ≤ lo → hi ≤ hi' → Norm lo' hi' sp
  | [], _, _, _, _, _, _, _ => trivial
  | s :: r, lo, hi, lo', hi', ⟨a, b, c, d⟩, h1, h2 => ⟨by omega, b, by omega, Norm.mono d (Int.le_refl _) h2⟩
theorem Norm.bnd : ∀ {sp : List (Int × Int)} {lo hi u : Int}, Norm lo hi sp → memS sp u → lo ≤ u ∧ u < hi
  | [], _, _, _, _, h => (memS_nil h).elim
  | s :: r, lo, hi, u, ⟨a, b, c, d⟩, h => by
    rcases memS_cons.mp h with h | h
    · omega
    · have := Norm.bnd d h; omega
theorem Norm.app {x y : List (Int × Int)} {lo b hi : Int} (h1 : Norm lo b x) (h2 : Norm (b + 1) hi y) (hb : b ≤ hi) (hl : lo ≤ b + 1) : Norm lo hi (x ++ y) := by
  induction x generalizing lo with
  | nil => exact h2.mono hl (Int.le_refl _)
  | cons s r ih =>
    obtain ⟨a1, a2, a3, a4⟩ := h1
    exact ⟨a1, a2, by omega, ih a4 (by omega)⟩
/-- one form for one set -/
theorem Norm.uniq : ∀ {x y : List (Int × Int)} {lo lo' hi : Int}, Norm lo hi x → Norm lo' hi y → (∀ u, memS x u ↔ memS y u) → x = y
  | [], [], _, _, _, _, _, _ => rfl
  | [], t :: y, _, _, _, _, ⟨_, b, _, _⟩, e => by
    have := (e t.1).mpr (memS_cons.mpr (.inl ⟨Int.le_refl _, b⟩))
    exact (memS_nil this).elim
  | s :: x, [], _, _, _, ⟨_, b, _, _⟩, _, e => by
    have := (e s.1).mp (memS_cons.mpr (.inl ⟨Int.le_refl _, b⟩))
    exact (memS_nil this).elim
  | s :: x, t :: y, lo, lo', hi, ⟨a1, a2, a3, a4⟩, ⟨b1, b2, b3, b4⟩, e => by
    have bx : ∀ u, memS x u → s.2 + 1 ≤ u := fun u h => (a4.bnd h).1
    have bt : ∀ u, memS y u → t.2 + 1 ≤ u := fun u h => (b4.bnd h).1
    have e1 : s.1 = t.1 := by
      have h1 := (e s.1).mp (memS_cons.mpr (.inl ⟨Int.le_refl _, a2⟩))
      have h2 := (e t.1).mpr (memS_cons.mpr (.inl ⟨Int.le_refl _, b2⟩))
      rcases memS_cons.mp h1 with h1 | h1 <;> rcases memS_cons.mp h2 with h2 | h2
      · omega
      · have := bx _ h2; omega
      · have := bt _ h1; omega
      · have := bx _ h2; have := bt _ h1; omega
    have e2 : s.2 = t.2 := by
      have k1 : ¬ memS (s :: x) s.2 := fun h => by
        rcases memS_cons.mp h with h | h
        · omega
        · have := bx _ h; omega
      have k2 : ¬ memS (t :: y) t.2 := fun h => by
        rcases memS_cons.mp h with h | h
        · omega
        · have := bt _ h; omega
      rcases Int.lt_trichotomy s.2 t.2 with h | h | h
      · exact absurd ((e s.2).mpr (memS_cons.mpr (.inl ⟨by omega, h⟩))) k1
      · exact h
      · exact absurd ((e t.2).mp (memS_cons.mpr (.inl ⟨by omega, h⟩))) k2
    have es : s = t := Prod.ext e1 e2
    subst es
    have : x = y := Norm.uniq a4 b4 fun u => by
      have := e u
      rw [memS_cons, memS_cons] at this
      constructor
      · intro h
        have l := bx u h
        rcases this.mp (.inr h) with z | z
        · omega
        · exact z
      · intro h
        have l := bt u h
        rcases this.mpr (.inr h) with z | z
        · omega
        · exact z
    rw [this]

theorem Norm.len_le : ∀ {sp : List (Int × Int)} {lo hi : Int}, Norm lo hi sp → ∀ s ∈ sp, lo ≤ s.1 ∧ s.1 < s.2 ∧ s.2 ≤ hi
  | [], _, _, _, _, h => by cases h
  | t :: r, lo, hi, ⟨a, b, c, d⟩, s, h => by
    rcases List.mem_cons.mp h with rfl | h
    · exact ⟨a, b, c⟩
    · have := Norm.len_le d s h; omega
theorem Norm.snoc : ∀ {x : List (Int × Int)} {lo hi : Int} {t : Int × Int}, Norm lo hi (x ++ [t]) → lo ≤ t.1 ∧ t.1 < t.2 ∧ t.2 ≤ hi ∧ Norm lo (t.1 - 1) x
  | [], _, _, _, ⟨a, b, c, _⟩ => ⟨a, b, c, trivial⟩
  | s :: x, lo, hi, t, ⟨a, b, c, d⟩ => by
    obtain ⟨h1, h2, h3, h4⟩ := Norm.snoc d
    exact ⟨by omega, h2, h3, a, b, by omega, h4⟩
theorem Norm.put {x : List (Int × Int)} {lo hi : Int} {t : Int × Int} (h : Norm lo (t.1 - 1) x) (h1 : lo ≤ t.1) (h2 : t.1 < t.2) (h3 : t.2 ≤ hi) : Norm lo hi (x ++ [t]) :=
  Norm.app (b := t.1 - 1) h ⟨by omega, h2, h3, trivial⟩ (by omega) (by omega)
/-- spans one behind the other, which may touch -/
def Rows : Int → Int → List (Int × Int) → Prop
  | _, _, [] => True
  | lo, hi, s :: r => lo ≤ s.1 ∧ s.1 < s.2 ∧ s.2 ≤ hi ∧ Rows s.2 hi r
/-- one span more, joined to the last one if they touch -/
def addS (x : List (Int × Int)) (s : Int × Int) : List (Int × Int) := match x.getLast? with
  | some t => if t.2 = s.1 then x.dropLast ++ [(t.1, s.2)] else x ++ [s]
  | none => [s]
def made (x : List (Int × Int)) : List (Int × Int) := x.foldl addS []
theorem addS_nil (s : Int × Int) : addS [] s = [s] := rfl
theorem addS_yes (x : List (Int × Int)) {t s : Int × Int} (h : t.2 = s.1) : addS (x ++ [t]) s = x ++ [(t.1, s.2)] := by
  unfold addS; rw [List.getLast?_concat]; simp only; rw [if_pos h, List.dropLast_concat]
theorem addS_no (x : List (Int × Int)) {t s : Int × Int} (h : ¬ t.2 = s.1) : addS (x ++ [t]) s = x ++ [t] ++ [s] := by
  unfold addS; rw [List.getLast?_concat]; simp only; rw [if_neg h]
theorem snoc_cases (x : List (Int × Int)) : x = [] ∨ ∃ y t, x = y ++ [t] := by
  rcases List.eq_nil_or_concat x with h | ⟨y, t, h⟩
  · exact .inl h
  · exact .inr ⟨y, t, by rw [h, List.concat_eq_append]⟩
theorem addS_ok {x : List (Int × Int)} {lo b : Int} {s : Int × Int} (h : Norm lo b x) (h1 : b ≤ s.1) (h0 : lo ≤ s.1) (h2 : s.1 < s.2) :
    Norm lo s.2 (addS x s) ∧ (∀ u, memS (addS x s) u ↔ memS x u ∨ (s.1 ≤ u ∧ u < s.2)) ∧ (addS x s).length ≤ x.length + 1 := by
  rcases snoc_cases x with rfl | ⟨y, t, rfl⟩
  · rw [addS_nil]
    exact ⟨⟨h0, h2, Int.le_refl _, trivial⟩, fun u => by rw [memS_cons]; exact Or.comm, by simp⟩
  · obtain ⟨a, c, d, e⟩ := h.snoc
    by_cases z : t.2 = s.1
    · rw [addS_yes y z]
      refine ⟨Norm.put (t := (t.1, s.2)) e a (by show t.1 < s.2; omega) (Int.le_refl _), fun u => ?_, by simp⟩
      rw [memS_app, memS_app, memS_cons, memS_cons]
      have n1 := @memS_nil u
      constructor
      · rintro (h | h | h)
        · exact .inl (.inl h)
        · simp only at h
          by_cases w : u < t.2
          · exact .inl (.inr (.inl ⟨h.1, w⟩))
          · exact .inr ⟨by omega, h.2⟩
        · exact (n1 h).elim
      · rintro ((h | h | h) | h)
        · exact .inl h
        · exact .inr (.inl ⟨h.1, by simp only; omega⟩)
        · exact (n1 h).elim
        · exact .inr (.inl ⟨by simp only; omega, h.2⟩)
    · rw [addS_no y z]
      refine ⟨Norm.put (Norm.put e a c (by omega)) h0 h2 (Int.le_refl _), fun u => ?_, by simp⟩
      rw [memS_app, memS_cons]
      simp [memS_nil]
theorem made_go : ∀ {r x : List (Int × Int)} {lo b hi : Int}, Norm lo b x → lo ≤ b → Rows b hi r → b ≤ hi →
    Norm lo hi (r.foldl addS x) ∧ (∀ u, memS (r.foldl addS x) u ↔ memS x u ∨ memS r u) ∧ (r.foldl addS x).length ≤ x.length + r.length
  | [], x, lo, b, hi, h, _, _, hb => ⟨h.mono (Int.le_refl _) hb, fun u => by simp [memS_nil], by simp⟩
  | s :: r, x, lo, b, hi, h, hl, ⟨h1, h2, h3, h4⟩, hb => by
    obtain ⟨a1, a2, a3⟩ := addS_ok (lo := lo) h h1 (by omega) h2
    obtain ⟨b1, b2, b3⟩ := made_go a1 (by omega) h4 h3
    refine ⟨b1, fun u => ?_, by rw [List.foldl_cons, List.length_cons]; omega⟩
    rw [List.foldl_cons, b2, a2, memS_cons]
    exact or_assoc
theorem made_ok {r : List (Int × Int)} {hi : Int} (h : Rows 0 hi r) (h0 : 0 ≤ hi) : Norm 0 hi (made r) ∧ (∀ u, memS (made r) u ↔ memS r u) ∧ (made r).length ≤ r.length := by
  obtain ⟨a, b, c⟩ := made_go (x := []) (lo := 0) (b := 0) trivial (Int.le_refl _) h h0
  refine ⟨a, fun u => ?_, by simpa [made] using c⟩
  unfold made; rw [b]; simp [memS_nil]
/-! ### what a cut tells between two points -/
def ptU (b g : Int) : Int := (-b) % g
theorem ptU_in (b : Int) {g : Int} (hg : 0 < g) : 0 ≤ ptU b g ∧ ptU b g < g := ⟨Int.emod_nonneg _ (Int.ne_of_gt hg), Int.emod_lt_of_pos _ hg⟩
theorem fdv_eq {x g q : Int} (hg : 0 < g) (h1 : g * q ≤ x) (h2 : x < g * q + g) : x / g = q := by
  have e : x = (x - g * q) + g * q := by omega
  rw [e, Int.add_mul_ediv_left _ _ (Int.ne_of_gt hg), Int.ediv_eq_zero_of_lt (by omega) (by omega)]; omega
def topU (b g : Int) : Int := -((-b) / g)
theorem topU_eq (b g : Int) : b + ptU b g = g * topU b g := by
  have e := Int.mul_ediv_add_emod (-b) g
  have ep : (-b) % g = ptU b g := rfl
  rw [ep] at e
  unfold topU
  rw [Int.mul_neg]; omega
theorem at_unit (b : Int) {g u : Int} (hg : 0 < g) (h0 : 0 ≤ u) (h1 : u < g) : (b + u) / g = (if ptU b g ≤ u then topU b g else topU b g - 1) := by
  obtain ⟨p0, p1⟩ := ptU_in b hg
  have e := topU_eq b g
  generalize topU b g = q at e ⊢
  have k2 : g * (q - 1) = g * q - g := by rw [Int.mul_sub]; omega
  split
  · exact fdv_eq hg (by omega) (by omega)
  · exact fdv_eq hg (by omega) (by omega)
/-- the least number told, and the units of those cuts that tell one more -/
def lesser (bi bj g : Int) : Int := (bj - bi) / g
def arcS (p q g : Int) : List (Int × Int) := if p ≤ q then (if p < q then [(p, q)] else []) else (if q > 0 then [(0, q)] else []) ++ [(p, g)]
theorem arcS_ok {p q g : Int} (p0 : 0 ≤ p) (p1 : p < g) (q0 : 0 ≤ q) (q1 : q < g) : Norm 0 g (arcS p q g) ∧ (∀ u, memS (arcS p q g) u ↔ (0 ≤ u ∧ u < g) ∧ (if p ≤ q then p ≤ u ∧ u < q else u < q ∨ p ≤ u)) ∧ (arcS p q g).length ≤ 2 := by
  have n1 : ∀ u, ¬ memS [] u := fun u => memS_nil
  unfold arcS
  by_cases h : p ≤ q
  · rw [if_pos h]
    by_cases h2 : p < q
    · rw [if_pos h2]
      refine ⟨⟨p0, h2, by show q ≤ g; omega, trivial⟩, fun u => ?_, by simp⟩
      rw [memS_cons, if_pos h]
      have := n1 u
      constructor
      · rintro (z | z)
        · simp only at z; omega
        · exact (this z).elim
      · intro z; left; simp only; omega
    · rw [if_neg h2]
      refine ⟨trivial, fun u => ?_, by simp⟩
      rw [if_pos h]
      have := n1 u
      constructor
      · intro z; exact (this z).elim
      · intro z; omega
  · rw [if_neg h]
    by_cases h2 : q > 0
    · rw [if_pos h2]
      refine ⟨⟨Int.le_refl _, h2, by show q ≤ g; omega, by show q + 1 ≤ p; omega, p1, Int.le_refl _, trivial⟩, fun u => ?_, by simp⟩
      rw [List.cons_append, List.nil_append, memS_cons, memS_cons, if_neg h]
      have := n1 u
      constructor
      · rintro (z | z | z)
        · simp only at z; omega
        · simp only at z; omega
        · exact (this z).elim
      · intro z; simp only; omega
    · rw [if_neg h2]
      refine ⟨⟨p0, p1, Int.le_refl _, trivial⟩, fun u => ?_, by simp⟩
      rw [List.nil_append, memS_cons, if_neg h]
      have := n1 u
      constructor
      · rintro (z | z)
        · simp only at z; omega
        · exact (this z).elim
      · intro z; simp only; omega
theorem told_is (bi bj : Int) {g u : Int} (hg : 0 < g) (h0 : 0 ≤ u) (h1 : u < g) :
    (bj + u) / g - (bi + u) / g = lesser bi bj g + (if (if ptU bj g ≤ ptU bi g then ptU bj g ≤ u ∧ u < ptU bi g else u < ptU bi g ∨ ptU bj g ≤ u) then 1 else 0) := by
  rw [at_unit bi hg h0 h1, at_unit bj hg h0 h1]
  obtain ⟨p0, p1⟩ := ptU_in bi hg
  obtain ⟨q0, q1⟩ := ptU_in bj hg
  have e1 := topU_eq bi g
  have e2 := topU_eq bj g
  unfold lesser
  generalize ptU bi g = p at *
  generalize ptU bj g = q at *
  generalize topU bi g = a at *
  generalize topU bj g = b at *
  have k1 : g * (b - a) = g * b - g * a := Int.mul_sub ..
  have k2 : g * (b - a - 1) = g * b - g * a - g := by rw [Int.mul_sub, Int.mul_sub]; omega
  by_cases h : q ≤ p
  · rw [show (bj - bi) / g = b - a from fdv_eq hg (by omega) (by omega)]
    simp only [h, if_true]
    split <;> split <;> split <;> omega
  · rw [show (bj - bi) / g = b - a - 1 from fdv_eq hg (by omega) (by omega)]
    simp only [h, if_false]
    split <;> split <;> split <;> omega
/-- the rest of the ring -/
def outG (x : List (Int × Int)) (at0 : Int) : List (Int × Int) × Int := x.foldl (fun p s => (if p.2 < s.1 then p.1 ++ [(p.2, s.1)] else p.1, s.2)) ([], at0)
def outS (x : List (Int × Int)) (g : Int) : List (Int × Int) := if (outG x 0).2 < g then (outG x 0).1 ++ [((outG x 0).2, g)] else (outG x 0).1
theorem out_go : ∀ {r f : List (Int × Int)} {a g : Int}, Norm 0 (a - 1) f → 0 ≤ a → a ≤ g → Rows a g r → (∀ s ∈ r, s.1 ≠ a ∨ a = 0) → (Norm a g r ∨ Norm (a + 1) g r) →
    ∃ f' a', (r.foldl (fun (p : List (Int × Int) × Int) s => (if p.2 < s.1 then p.1 ++ [(p.2, s.1)] else p.1, s.2)) (f, a)) = (f', a') ∧ Norm 0 (a' - 1) f' ∧ 0 ≤ a' ∧ a' ≤ g ∧ (∀ u, (memS f' u ∨ a' ≤ u) ↔ (memS f u ∨ (a ≤ u ∧ ¬ memS r u))) ∧ f'.length ≤ f.length + r.length
  | [], f, a, g, h, h0, hg, _, _, _ => ⟨f, a, rfl, h, h0, hg, fun u => by simp [memS_nil], by simp⟩
  | s :: r, f, a, g, h, h0, hg, ⟨r1, r2, r3, r4⟩, hs, hn => by
    have hn' : Norm (s.2 + 1) g r := by rcases hn with hn | hn <;> exact hn.2.2.2
    have st : Norm 0 (s.2 - 1) (if a < s.1 then f ++ [(a, s.1)] else f) := by
      by_cases z : a < s.1
      · rw [if_pos z]; exact Norm.put h h0 z (by show s.1 ≤ s.2 - 1; omega)
      · rw [if_neg z]; exact h.mono (Int.le_refl _) (by omega)
    obtain ⟨f', a', e, b1, b2, b3, b4, b5⟩ := out_go (r := r) (a := s.2) st (by omega) r3 r4 (fun t ht => by
      have := hn'.len_le t ht; left; omega) (.inr hn')
    refine ⟨f', a', e, b1, b2, b3, fun u => ?_, ?_⟩
    · rw [b4, memS_cons]
      have hb : memS r u → s.2 + 1 ≤ u := fun q => (hn'.bnd q).1
      have hf : memS (if a < s.1 then f ++ [(a, s.1)] else f) u ↔ memS f u ∨ (a ≤ u ∧ u < s.1) := by
        by_cases z : a < s.1
        · rw [if_pos z, memS_app, memS_cons]; simp [memS_nil]
        · rw [if_neg z]
          constructor
          · exact .inl
          · rintro (q | q)
            · exact q
            · omega
      rw [hf]
      have hfb : memS f u → u < a - 1 := fun q => (h.bnd q).2
      by_cases m : memS r u
      · have := hb m
        constructor
        · rintro ((q | q) | ⟨_, q⟩)
          · exact .inl q
          · omega
          · exact (q m).elim
        · rintro (q | ⟨_, q⟩)
          · exact .inl (.inl q)
          · exact (q (.inr m)).elim
      · constructor
        · rintro ((q | q) | ⟨q, _⟩)
          · exact .inl q
          · refine .inr ⟨q.1, ?_⟩
            rintro (w | w)
            · omega
            · exact m w
          · refine .inr ⟨by omega, ?_⟩
            rintro (w | w)
            · omega
            · exact m w
        · rintro (q | ⟨q, w⟩)
          · exact .inl (.inl q)
          · by_cases z : u < s.1
            · exact .inl (.inr ⟨q, z⟩)
            · refine .inr ⟨?_, m⟩
              have : ¬ (s.1 ≤ u ∧ u < s.2) := fun k => w (.inl k)
              omega
    · rw [List.length_cons]
      have : (if a < s.1 then f ++ [(a, s.1)] else f).length ≤ f.length + 1 := by split <;> simp
      omega
theorem Norm.rows : ∀ {x : List (Int × Int)} {lo hi : Int}, Norm lo hi x → Rows lo hi x
  | [], _, _, _ => trivial
  | s :: x, lo, hi, ⟨a, b, c, d⟩ => ⟨a, b, c, (d.mono (by omega) (Int.le_refl _) : Norm s.2 hi x).rows⟩
theorem outS_ok {x : List (Int × Int)} {g : Int} (hg : 0 < g) (h : Norm 0 g x) : Norm 0 g (outS x g) ∧ (∀ u, memS (outS x g) u ↔ (0 ≤ u ∧ u < g) ∧ ¬ memS x u) ∧ (outS x g).length ≤ x.length + 1 := by
  obtain ⟨f', a', e, b1, b2, b3, b4, b5⟩ := out_go (r := x) (f := []) (a := 0) trivial (Int.le_refl _) (by omega) h.rows (fun _ _ => .inr rfl) (.inl h)
  have e' : outG x 0 = (f', a') := e
  unfold outS
  rw [e']
  simp only
  have b4' : ∀ u, (memS f' u ∨ a' ≤ u) ↔ (0 ≤ u ∧ ¬ memS x u) := fun u => by rw [b4]; simp [memS_nil]
  have b5' : f'.length ≤ x.length := by simpa using b5
  by_cases z : a' < g
  · rw [if_pos z]
    refine ⟨Norm.put b1 b2 z (Int.le_refl _), fun u => ?_, by simp; omega⟩
    rw [memS_app, memS_cons]
    have q := b4' u
    have n1 := @memS_nil u
    constructor
    · rintro (w | w | w)
      · have := (b1.bnd w); have := q.mp (.inl w); exact ⟨by omega, this.2⟩
      · have := q.mp (.inr w.1); exact ⟨⟨this.1, w.2⟩, this.2⟩
      · exact (n1 w).elim
    · rintro ⟨⟨w1, w2⟩, w3⟩
      rcases q.mpr ⟨w1, w3⟩ with w | w
      · exact .inl w
      · exact .inr (.inl ⟨w, w2⟩)
  · rw [if_neg z]
    refine ⟨b1.mono (Int.le_refl _) (by omega), fun u => ?_, by omega⟩
    have q := b4' u
    constructor
    · intro w
      have := (b1.bnd w); have := q.mp (.inl w); exact ⟨by omega, this.2⟩
    · rintro ⟨⟨w1, w2⟩, w3⟩
      rcases q.mpr ⟨w1, w3⟩ with w | w
      · exact w
      · omega
/-- the units that a statement leaves -/
def allowS (bi bj g n : Int) : List (Int × Int) := if n = lesser bi bj g then outS (arcS (ptU bj g) (ptU bi g) g) g else if n = lesser bi bj g + 1 then arcS (ptU bj g) (ptU bi g) g else []
theorem allowS_ok (bi bj n : Int) {g : Int} (hg : 0 < g) : Norm 0 g (allowS bi bj g n) ∧ (∀ u, memS (allowS bi bj g n) u ↔ (0 ≤ u ∧ u < g) ∧ (bj + u) / g - (bi + u) / g = n) ∧ (allowS bi bj g n).length ≤ 3 := by
  obtain ⟨p0, p1⟩ := ptU_in bi hg
  obtain ⟨q0, q1⟩ := ptU_in bj hg
  obtain ⟨a1, a2, a3⟩ := arcS_ok q0 q1 p0 p1
  obtain ⟨o1, o2, o3⟩ := outS_ok hg a1
  unfold allowS
  by_cases h : n = lesser bi bj g
  · rw [if_pos h]
    refine ⟨o1, fun u => ?_, by omega⟩
    rw [o2, a2]
    constructor
    · rintro ⟨w1, w2⟩
      refine ⟨w1, ?_⟩
      rw [told_is bi bj hg w1.1 w1.2, if_neg (fun k => w2 ⟨w1, k⟩)]; omega
    · rintro ⟨w1, w2⟩
      refine ⟨w1, fun k => ?_⟩
      rw [told_is bi bj hg w1.1 w1.2, if_pos k.2] at w2; omega
  · rw [if_neg h]
    by_cases h2 : n = lesser bi bj g + 1
    · rw [if_pos h2]
      refine ⟨a1, fun u => ?_, by omega⟩
      rw [a2]
      constructor
      · rintro ⟨w1, w2⟩
        refine ⟨w1, ?_⟩
        rw [told_is bi bj hg w1.1 w1.2, if_pos w2]; omega
      · rintro ⟨w1, w2⟩
        refine ⟨w1, ?_⟩
        rw [told_is bi bj hg w1.1 w1.2] at w2
        refine Classical.byContradiction fun k => ?_
        rw [if_neg k] at w2; omega
    · rw [if_neg h2]
      refine ⟨trivial, fun u => ?_, by simp⟩
      constructor
      · intro w; exact (memS_nil w).elim
      · rintro ⟨w1, w2⟩
        rw [told_is bi bj hg w1.1 w1.2] at w2
        split at w2 <;> omega
/-! ### cells between points -/
def cellsG (g : Int) : List Int → List (Int × Int)
  | [] => []
  | p :: ps => (p, ps.headD g) :: cellsG g ps
theorem cells_in {g : Int} : ∀ {ps : List Int}, ps.Pairwise (· < ·) → (∀ p ∈ ps, p < g) → ∀ c ∈ cellsG g ps, c.1 ∈ ps ∧ c.1 < c.2 ∧ c.2 ≤ g ∧ ∀ p ∈ ps, p ≤ c.1 ∨ c.2 ≤ p
  | [], _, _, c, h => by cases h
  | [p], _, hg, c, h => by
    rw [cellsG, cellsG, List.mem_singleton] at h
    subst h
    exact ⟨by simp, hg p (by simp), Int.le_refl _, fun q hq => by rw [List.mem_singleton] at hq; subst hq; exact .inl (Int.le_refl _)⟩
  | p :: r :: ps, hp, hg, c, h => by
    have h' : c = (p, r) ∨ c ∈ cellsG g (r :: ps) := by rw [cellsG] at h; exact List.mem_cons.mp h
    have hp' := List.pairwise_cons.mp hp
    rcases h' with rfl | h'
    · refine ⟨by simp, hp'.1 r (by simp), Int.le_of_lt (hg r (by simp)), fun q hq => ?_⟩
      rcases List.mem_cons.mp hq with rfl | hq
      · exact .inl (Int.le_refl _)
      · rcases List.mem_cons.mp hq with rfl | hq
        · exact .inr (Int.le_refl _)
        · exact .inr (Int.le_of_lt ((List.pairwise_cons.mp hp'.2).1 q hq))
    · obtain ⟨a, b, d, e⟩ := cells_in hp'.2 (fun q hq => hg q (List.mem_cons_of_mem _ hq)) c h'
      refine ⟨List.mem_cons_of_mem _ a, b, d, fun q hq => ?_⟩
      rcases List.mem_cons.mp hq with rfl | hq
      · exact .inl (Int.le_of_lt (hp'.1 _ a))
      · exact e q hq
theorem cells_rows {g : Int} (F : Int → Bool) : ∀ {ps : List Int} {lo : Int}, ps.Pairwise (· < ·) → (∀ p ∈ ps, p < g) → (∀ p ∈ ps, lo ≤ p) → Rows lo g ((cellsG g ps).filter fun c => F c.1)
  | [], _, _, _, _ => trivial
  | p :: ps, lo, hp, hg, hl => by
    have hp' := List.pairwise_cons.mp hp
    obtain ⟨_, b, d, e⟩ := cells_in hp hg (p, ps.headD g) (by rw [cellsG]; simp)
    have hh : ∀ q ∈ ps, ps.headD g ≤ q := fun q hq => by
      rcases e q (List.mem_cons_of_mem _ hq) with z | z
      · have := hp'.1 q hq; simp only at z; omega
      · exact z
    have ih := cells_rows F (lo := ps.headD g) hp'.2 (fun q hq => hg q (List.mem_cons_of_mem _ hq)) hh
    rw [cellsG, List.filter_cons]
    have lp := hl p (by simp)
    split
    · exact ⟨lp, b, d, ih⟩
    · cases hf : (cellsG g ps).filter fun c => F c.1 with
      | nil => exact trivial
      | cons s r =>
        rw [hf] at ih
        obtain ⟨i1, i2, i3, i4⟩ := ih
        simp only at b
        exact ⟨by omega, i2, i3, i4⟩
theorem cells_mem {g : Int} (F : Int → Bool) (G : Int → Prop) : ∀ {ps : List Int} {p : Int}, (p :: ps).Pairwise (· < ·) → (∀ q ∈ p :: ps, q < g) →
    (∀ c ∈ cellsG g (p :: ps), ∀ u, c.1 ≤ u → u < c.2 → (F c.1 = true ↔ G u)) → ∀ u, memS ((cellsG g (p :: ps)).filter fun c => F c.1) u ↔ (p ≤ u ∧ u < g) ∧ G u
  | ps, p, hp, hg, hF, u => by
    have hp' := List.pairwise_cons.mp hp
    obtain ⟨_, b, d, e⟩ := cells_in hp hg (p, ps.headD g) (by rw [cellsG]; simp)
    have h1 := hF (p, ps.headD g) (by rw [cellsG]; simp) u
    have one : memS ((cellsG g (p :: ps)).filter fun c => F c.1) u ↔ ((p ≤ u ∧ u < ps.headD g) ∧ G u) ∨ memS ((cellsG g ps).filter fun c => F c.1) u := by
      rw [cellsG, List.filter_cons]
      split
      · rename_i hf
        rw [memS_cons]
        constructor
        · rintro (z | z)
          · exact .inl ⟨z, (h1 z.1 z.2).mp hf⟩
          · exact .inr z
        · rintro (z | z)
          · exact .inl z.1
          · exact .inr z
      · rename_i hf
        constructor
        · exact .inr
        · rintro (z | z)
          · exact (hf ((h1 z.1.1 z.1.2).mpr z.2)).elim
          · exact z
    rw [one]
    cases ps with
    | nil =>
      simp only [List.headD_nil] at *
      constructor
      · rintro (z | z)
        · exact z
        · exact (memS_nil z).elim
      · exact .inl
    | cons r ps =>
      rw [cells_mem F G hp'.2 (fun q hq => hg q (List.mem_cons_of_mem _ hq)) (fun c hc => hF c (by rw [cellsG]; exact List.mem_cons_of_mem _ hc)) u]
      simp only [List.headD_cons] at *
      have := hp'.1 r (by simp)
      have := hg r (by simp)
      constructor
      · rintro (z | z)
        · exact ⟨by omega, z.2⟩
        · exact ⟨by omega, z.2⟩
      · rintro ⟨z1, z2⟩
        by_cases w : u < r
        · exact .inl ⟨by omega, z2⟩
        · exact .inr ⟨by omega, z2⟩
theorem cells_len (g : Int) : ∀ ps : List Int, (cellsG g ps).length = ps.length
  | [] => rfl
  | p :: ps => by rw [cellsG, List.length_cons, cells_len g ps, List.length_cons]

theorem sub_len : ∀ {zs ns : List Int}, zs.Pairwise (· < ·) → (∀ z ∈ zs, z ∈ ns) → zs.length ≤ ns.length
  | [], _, _, _ => Nat.zero_le _
  | z :: zs, ns, h, hs => by
    have h' := List.pairwise_cons.mp h
    have m := hs z (by simp)
    have ih := sub_len (zs := zs) (ns := ns.erase z) h'.2 fun y hy => (List.mem_erase_of_ne (by have := h'.1 y hy; omega)).mpr (hs y (by simp [hy]))
    rw [List.length_erase_of_mem m] at ih
    have := List.length_pos_of_mem m
    rw [List.length_cons]; omega
/-- all that is stated is told -/
def Sat (es : List Ent) (g : Int) (ss : List Sta) (u : Int) : Prop := ∀ s ∈ ss, toldBy es g u s.first (s.first + s.many) = s.num
def satB (es : List Ent) (g : Int) (ss : List Sta) (u : Int) : Bool := ss.all fun s => decide (toldBy es g u s.first (s.first + s.many) = s.num)
theorem satB_iff {es : List Ent} {g u : Int} {ss : List Sta} : satB es g ss u = true ↔ Sat es g ss u := by
  unfold satB Sat
  rw [List.all_eq_true]
  constructor
  · exact fun h s hs => of_decide_eq_true (h s hs)
  · exact fun h s hs => decide_eq_true (h s hs)
def ends (ss : List (Int × Int)) : List Int := ss.flatMap fun s => [s.1, s.1 + s.2]
@[reducible] def fmS (s : Sta) : Int × Int := (s.first, s.many)
/-- few days, each perhaps often -/
def DaysFew (ds : List Int) : Prop := ds.length ≤ 900 ∧ ∃ L : List Int, L.length ≤ 62 ∧ ∀ d ∈ ds, d ∈ L
theorem daysFew_of {ds : List Int} (h : ds.length ≤ 62 ∨ DaysFew ds) : DaysFew ds := by
  rcases h with h | h
  · exact ⟨by omega, ds, h, fun _ h => h⟩
  · exact h
structure Points (es : List Ent) (g : Int) (ds : List Int) (ps : List Int) : Prop where
  sorted : ps.Pairwise (· < ·)
  mem : ∀ z, z ∈ ps ↔ z = 0 ∨ ∃ d ∈ ds, z = ptU (before es g d) g
theorem Points.low {es : List Ent} {g : Int} {ds ps : List Int} (hg : 0 < g) (h : Points es g ds ps) : (∀ p ∈ ps, 0 ≤ p ∧ p < g) ∧ ∃ r, ps = 0 :: r := by
  have b : ∀ p ∈ ps, 0 ≤ p ∧ p < g := fun p hp => by
    rcases (h.mem p).mp hp with rfl | ⟨d, _, rfl⟩
    · exact ⟨Int.le_refl _, hg⟩
    · exact ptU_in _ hg
  refine ⟨b, ?_⟩
  have z := (h.mem 0).mpr (.inl rfl)
  cases ps with
  | nil => cases z
  | cons p r =>
    have := b p (by simp)
    rcases List.mem_cons.mp z with rfl | z
    · exact ⟨r, rfl⟩
    · have := (List.pairwise_cons.mp h.sorted).1 0 z
      omega
theorem Points.len {es : List Ent} {g : Int} {ds ps : List Int} (h : Points es g ds ps) : ps.length ≤ ds.length + 1 := by
  have := sub_len (ns := 0 :: ds.map fun d => ptU (before es g d) g) h.sorted fun z hz => by
    rcases (h.mem z).mp hz with rfl | ⟨d, hd, rfl⟩
    · simp
    · exact List.mem_cons_of_mem _ (List.mem_map.mpr ⟨d, hd, rfl⟩)
  simpa using this
theorem Points.uniq {es : List Ent} {g : Int} {ds ds' : List Int} (hd : ∀ d, d ∈ ds ↔ d ∈ ds') : ∀ {ps ps' : List Int}, Points es g ds ps → Points es g ds' ps' → ps = ps' := by
  have go : ∀ ps ps' : List Int, ps.Pairwise (· < ·) → ps'.Pairwise (· < ·) → (∀ z, z ∈ ps ↔ z ∈ ps') → ps = ps' := by
    intro ps
    induction ps with
    | nil =>
      intro ps' _ _ e
      cases ps' with
      | nil => rfl
      | cons a r => have := (e a).mpr (by simp); cases this
    | cons p ps ih =>
      intro ps' h1 h2 e
      cases ps' with
      | nil => have := (e p).mp (by simp); cases this
      | cons a r =>
        have k1 := List.pairwise_cons.mp h1
        have k2 := List.pairwise_cons.mp h2
        have e1 : p = a := by
          rcases List.mem_cons.mp ((e p).mp (by simp)) with w | w
          · exact w
          · rcases List.mem_cons.mp ((e a).mpr (by simp)) with v | v
            · exact v.symm
            · have := k1.1 _ v; have := k2.1 _ w; omega
        subst e1
        rw [ih r k1.2 k2.2 fun z => ?_]
        have := e z
        constructor
        · intro w
          have l := k1.1 _ w
          rcases List.mem_cons.mp (this.mp (List.mem_cons_of_mem _ w)) with v | v
          · omega
          · exact v
        · intro w
          have l := k2.1 _ w
          rcases List.mem_cons.mp (this.mpr (List.mem_cons_of_mem _ w)) with v | v
          · omega
          · exact v
  intro ps ps' h h'
  refine go ps ps' h.sorted h'.sorted fun z => ?_
  rw [h.mem, h'.mem]
  constructor
  · rintro (w | ⟨d, w, v⟩)
    · exact .inl w
    · exact .inr ⟨d, (hd d).mp w, v⟩
  · rintro (w | ⟨d, w, v⟩)
    · exact .inl w
    · exact .inr ⟨d, (hd d).mpr w, v⟩
/-- between two neighbouring points the same is told -/
theorem told_same {es : List Ent} {g i j u v : Int} (hg : 0 < g) (hu : 0 ≤ u ∧ u < g) (hv : 0 ≤ v ∧ v < g) (hi : ptU (before es g i) g ≤ u ↔ ptU (before es g i) g ≤ v) (hj : ptU (before es g j) g ≤ u ↔ ptU (before es g j) g ≤ v) : toldBy es g u i j = toldBy es g v i j := by
  unfold toldBy
  rw [at_unit _ hg hu.1 hu.2, at_unit _ hg hu.1 hu.2, at_unit _ hg hv.1 hv.2, at_unit _ hg hv.1 hv.2]
  have e1 : (if ptU (before es g j) g ≤ u then topU (before es g j) g else topU (before es g j) g - 1) = (if ptU (before es g j) g ≤ v then topU (before es g j) g else topU (before es g j) g - 1) := by split <;> split <;> omega
  have e2 : (if ptU (before es g i) g ≤ u then topU (before es g i) g else topU (before es g i) g - 1) = (if ptU (before es g i) g ≤ v then topU (before es g i) g else topU (before es g i) g - 1) := by split <;> split <;> omega
  rw [e1, e2]
theorem mem_ends {ss : List Sta} {s : Sta} (h : s ∈ ss) : s.first ∈ ends (ss.map fmS) ∧ s.first + s.many ∈ ends (ss.map fmS) := by
  unfold ends
  constructor
  · exact List.mem_flatMap.mpr ⟨fmS s, List.mem_map.mpr ⟨s, h, rfl⟩, by simp⟩
  · exact List.mem_flatMap.mpr ⟨fmS s, List.mem_map.mpr ⟨s, h, rfl⟩, by simp⟩
theorem ends_len : ∀ ss : List (Int × Int), (ends ss).length = 2 * ss.length
  | [] => rfl
  | s :: ss => by
    have := ends_len ss
    unfold ends at *
    rw [List.flatMap_cons, List.length_append, this, List.length_cons]; simp; omega
def cellsS (es : List Ent) (g : Int) (ss : List Sta) (ps : List Int) : List (Int × Int) := (cellsG g ps).filter fun c => satB es g ss c.1
theorem cellsS_ok {es : List Ent} {g : Int} {ss : List Sta} {D ps : List Int} (hg : 0 < g) (h : Points es g D ps) (hD : ∀ d ∈ ends (ss.map fmS), d ∈ D) :
    Rows 0 g (cellsS es g ss ps) ∧ (∀ u, memS (cellsS es g ss ps) u ↔ (0 ≤ u ∧ u < g) ∧ Sat es g ss u) ∧ (cellsS es g ss ps).length ≤ ps.length := by
  obtain ⟨b, r, e⟩ := h.low hg
  have sr := h.sorted
  have pm : ∀ d ∈ D, ptU (before es g d) g ∈ ps := fun d hd => (h.mem _).mpr (.inr ⟨d, hd, rfl⟩)
  refine ⟨cells_rows _ sr (fun p hp => (b p hp).2) (fun p hp => (b p hp).1), fun u => ?_, Nat.le_trans (List.length_filter_le _ _) (Nat.le_of_eq (cells_len g ps))⟩
  subst e
  refine cells_mem (fun u => satB es g ss u) (Sat es g ss) sr (fun p hp => (b p hp).2) (fun c hc u h1 h2 => ?_) u
  obtain ⟨c1, c2, c3, c4⟩ := cells_in sr (fun p hp => (b p hp).2) c hc
  have bc := b _ c1
  rw [satB_iff]
  have key : ∀ d ∈ D, (ptU (before es g d) g ≤ c.1 ↔ ptU (before es g d) g ≤ u) := fun d hd => by
    have := c4 _ (pm d hd)
    omega
  have one : ∀ s ∈ ss, toldBy es g c.1 s.first (s.first + s.many) = toldBy es g u s.first (s.first + s.many) := fun s hs =>
    told_same hg bc (by omega) (key _ (hD _ (mem_ends hs).1)) (key _ (hD _ (mem_ends hs).2))
  unfold Sat
  constructor
  · exact fun w s hs => by rw [← one s hs]; exact w s hs
  · exact fun w s hs => by rw [one s hs]; exact w s hs
/-- a set of spans of units as ratios -/
def spanD (g : Int) (s : Int × Int) : PyData := .tuple [lowD s.1 g, lowD s.2 g]
/-- the spans of a set of units -/
structure IsSet (g : Int) (G : Int → Prop) (sp : List (Int × Int)) : Prop where
  norm : Norm 0 g sp
  mem : ∀ u, memS sp u ↔ (0 ≤ u ∧ u < g) ∧ G u
theorem IsSet.uniq {g : Int} {G G' : Int → Prop} {x y : List (Int × Int)} (h : IsSet g G x) (h' : IsSet g G' y) (e : ∀ u, 0 ≤ u → u < g → (G u ↔ G' u)) : x = y := by
  refine h.norm.uniq h'.norm fun u => ?_
  rw [h.mem, h'.mem]
  constructor
  · rintro ⟨a, b⟩; exact ⟨a, (e u a.1 a.2).mp b⟩
  · rintro ⟨a, b⟩; exact ⟨a, (e u a.1 a.2).mpr b⟩
theorem IsSet.big {g : Int} {G : Int → Prop} {x : List (Int × Int)} (h : IsSet g G x) : ∀ s ∈ x, s.1.natAbs ≤ g.natAbs ∧ s.2.natAbs ≤ g.natAbs := fun s hs => by
  have := h.norm.len_le s hs; omega
theorem shw_spans {n : Nat} {g : Int} {x : List (Int × Int)} (hg : 0 < g) (hb : g.natAbs < 2 ^ 700) (h : ∀ s ∈ x, s.1.natAbs ≤ g.natAbs ∧ s.2.natAbs ≤ g.natAbs) (hl : x.length ≤ 64) : Shw 600000 (n + 3) (.list (x.map (spanD g))) := by
  have up : (2 : Nat) ^ 700 < 2 ^ 1900 := by decide
  refine (shw_list (b := 9000) (n := n + 2) (m := 64) (fun y hy => ?_) (by rw [List.length_map]; exact hl)).up (by decide) (Nat.le_refl _)
  obtain ⟨s, hs, rfl⟩ := List.mem_map.mp hy
  have := h s hs
  refine (shw_tup (b := 4007) (n := n + 1) (m := 2) (fun z hz => ?_) (by simp)).up (by decide) (Nat.le_refl _)
  simp only [List.mem_cons, List.not_mem_nil, or_false] at hz
  rcases hz with rfl | rfl
  · exact shw_low (Int.ne_of_gt hg) (by omega) (by omega)
  · exact shw_low (Int.ne_of_gt hg) (by omega) (by omega)
theorem lay_rats {k : Nat} (x : List (Int × Int)) : lay (k + 2) (.list (x.map ratD)) := lay_list fun y hy => by
  obtain ⟨s, _, rfl⟩ := List.mem_map.mp hy; exact lay_rat _ _
/-! ### the number of units does not depend on the order -/
theorem lcmZ_dvd_iff {g u x : Int} (hg : 0 < g) (hu : 0 < u) : lcmZ g u ∣ x ↔ g ∣ x ∧ u ∣ x := by
  obtain ⟨_, d1, d2, _, _⟩ := lcmZ_ok hg hu
  constructor
  · exact fun h => ⟨Int.dvd_trans d1 h, Int.dvd_trans d2 h⟩
  · rintro ⟨h1, h2⟩
    have e : lcmZ g u = ((Nat.lcm g.natAbs u.natAbs : Nat) : Int) := by
      unfold lcmZ Nat.lcm
      rw [Int.natCast_ediv, Int.natCast_mul, Int.natAbs_of_nonneg (Int.le_of_lt hg), Int.natAbs_of_nonneg (Int.le_of_lt hu)]
      rfl
    rw [e, Int.ofNat_dvd_left]
    exact Nat.lcm_dvd (Int.natAbs_dvd_natAbs.mpr h1) (Int.natAbs_dvd_natAbs.mpr h2)
theorem gr1_dvd_iff {x : Int} : ∀ {am : List (Int × Int)} {g : Int}, 0 < g → (∀ r ∈ am, AmOk r) → (gr1 g am ∣ x ↔ g ∣ x ∧ ∀ r ∈ am, r.2 ∣ x)
  | [], g, _, _ => by simp [gr1]
  | r :: am, g, hg, h => by
    have hr := h r (by simp)
    have ih := gr1_dvd_iff (x := x) (am := am) (lcmZ_ok hg hr.ok.1).1 fun y hy => h y (by simp [hy])
    show gr1 (lcmZ g r.2) am ∣ x ↔ _
    rw [ih, lcmZ_dvd_iff hg hr.ok.1]
    simp [and_assoc]
theorem grain_dvd_go {x : Int} : ∀ {es : List Ent} {g : Int}, 0 < g → (∀ e ∈ es, EntOk e) → (es.foldl (fun g e => gr1 g e.am) g ∣ x ↔ g ∣ x ∧ ∀ e ∈ es, ∀ r ∈ e.am, r.2 ∣ x)
  | [], g, _, _ => by simp
  | e :: es, g, hg, h => by
    have he := h e (by simp)
    have ih := grain_dvd_go (x := x) (es := es) (gr1_ok hg he.ams).1 fun y hy => h y (by simp [hy])
    rw [List.foldl_cons, ih, gr1_dvd_iff hg he.ams]
    simp [and_assoc]
theorem grain_same {es fs : List Ent} (h : ∀ e ∈ es, EntOk e) (hs : ∀ e, e ∈ fs ↔ e ∈ es) : grain fs = grain es := by
  have hf : ∀ e ∈ fs, EntOk e := fun e he => h e ((hs e).mp he)
  have p1 := (grain_ok' (g := 1) (by decide) h).1
  have p2 := (grain_ok' (g := 1) (by decide) hf).1
  have d : ∀ x, grain es ∣ x ↔ grain fs ∣ x := fun x => by
    unfold grain
    rw [grain_dvd_go (by decide) h, grain_dvd_go (by decide) hf]
    constructor
    · rintro ⟨a, b⟩; exact ⟨a, fun e he => b e ((hs e).mp he)⟩
    · rintro ⟨a, b⟩; exact ⟨a, fun e he => b e ((hs e).mpr he)⟩
  exact Int.dvd_antisymm (Int.le_of_lt p2) (Int.le_of_lt p1) ((d _).mpr (Int.dvd_refl _) |> fun q => by exact (d (grain es)).mp (Int.dvd_refl _)) ((d (grain fs)).mpr (Int.dvd_refl _))
/-! ### what two sets share -/
def inter (s t : Int × Int) : Option (Int × Int) := if mx s.1 t.1 < mn s.2 t.2 then some (mx s.1 t.1, mn s.2 t.2) else none
def meetS (x y : List (Int × Int)) : List (Int × Int) := x.flatMap fun s => y.filterMap (inter s)
theorem mx_le {a b u : Int} : mx a b ≤ u ↔ a ≤ u ∧ b ≤ u := by unfold mx; split <;> omega
theorem lt_mn {a b u : Int} : u < mn a b ↔ u < a ∧ u < b := by unfold mn; split <;> omega
theorem inter_some {s t r : Int × Int} : inter s t = some r ↔ mx s.1 t.1 < mn s.2 t.2 ∧ r = (mx s.1 t.1, mn s.2 t.2) := by
  unfold inter
  by_cases h : mx s.1 t.1 < mn s.2 t.2
  · rw [if_pos h]
    constructor
    · intro e; exact ⟨h, (Option.some.inj e).symm⟩
    · intro e; rw [e.2]
  · rw [if_neg h]
    constructor
    · intro e; cases e
    · intro e; exact (h e.1).elim
theorem inter_mem (s : Int × Int) {y : List (Int × Int)} {u : Int} : memS (y.filterMap (inter s)) u ↔ (s.1 ≤ u ∧ u < s.2) ∧ memS y u := by
  constructor
  · rintro ⟨r, hr, h1, h2⟩
    obtain ⟨t, ht, e⟩ := List.mem_filterMap.mp hr
    obtain ⟨_, rfl⟩ := inter_some.mp e
    have a := mx_le.mp h1
    have b := lt_mn.mp h2
    exact ⟨⟨a.1, b.1⟩, t, ht, a.2, b.2⟩
  · rintro ⟨⟨h1, h2⟩, t, ht, h3, h4⟩
    have a : mx s.1 t.1 ≤ u := mx_le.mpr ⟨h1, h3⟩
    have b : u < mn s.2 t.2 := lt_mn.mpr ⟨h2, h4⟩
    exact ⟨_, List.mem_filterMap.mpr ⟨t, ht, inter_some.mpr ⟨by omega, rfl⟩⟩, a, b⟩
theorem meet_mem {x y : List (Int × Int)} {u : Int} : memS (meetS x y) u ↔ memS x u ∧ memS y u := by
  unfold meetS
  induction x with
  | nil => simp [memS_nil]
  | cons s x ih =>
    rw [List.flatMap_cons, memS_app, inter_mem, ih, memS_cons]
    constructor
    · rintro (⟨a, b⟩ | ⟨a, b⟩)
      · exact ⟨.inl a, b⟩
      · exact ⟨.inr a, b⟩
    · rintro ⟨a | a, b⟩
      · exact .inl ⟨a, b⟩
      · exact .inr ⟨a, b⟩
theorem Norm.empty {x : List (Int × Int)} {lo hi : Int} (h : Norm lo hi x) (hl : hi ≤ lo) : x = [] := by
  cases x with
  | nil => rfl
  | cons s r => obtain ⟨a, b, c, _⟩ := h; omega
theorem inter_norm (s : Int × Int) : ∀ {y : List (Int × Int)} {lo hi : Int}, Norm lo hi y → Norm (mx s.1 lo) s.2 (y.filterMap (inter s))
  | [], _, _, _ => trivial
  | t :: y, lo, hi, ⟨a, b, c, d⟩ => by
    have ih := inter_norm s d
    have m1 : mx s.1 lo ≤ mx s.1 t.1 := by unfold mx; split <;> split <;> omega
    have m2 : mx s.1 t.1 ≤ mx s.1 (t.2 + 1) := by unfold mx; split <;> split <;> omega
    cases e : inter s t with
    | none =>
      rw [List.filterMap_cons_none e]
      exact ih.mono (by omega) (Int.le_refl _)
    | some r =>
      obtain ⟨h, rfl⟩ := inter_some.mp e
      rw [List.filterMap_cons_some e]
      have k : mn s.2 t.2 ≤ s.2 := by unfold mn; split <;> omega
      refine ⟨m1, h, k, ?_⟩
      by_cases z : t.2 < s.2
      · have e2 : mn s.2 t.2 = t.2 := by unfold mn; rw [if_pos z]
        refine ih.mono ?_ (Int.le_refl _)
        show mn s.2 t.2 + 1 ≤ _
        rw [e2]; unfold mx; split <;> omega
      · have e3 : y.filterMap (inter s) = [] := ih.empty (by unfold mx; split <;> omega)
        rw [e3]; trivial
theorem meet_norm {y : List (Int × Int)} {lo' hi' : Int} (hy : Norm lo' hi' y) : ∀ {x : List (Int × Int)} {lo hi : Int}, Norm lo hi x → Norm lo hi (meetS x y)
  | [], _, _, _ => trivial
  | s :: x, lo, hi, ⟨a, b, c, d⟩ => by
    have ih := meet_norm hy d
    have h1 := inter_norm s hy
    unfold meetS at *
    rw [List.flatMap_cons]
    exact Norm.app (b := s.2) (h1.mono (by unfold mx; split <;> omega) (Int.le_refl _)) ih c (by omega)
theorem Norm.asc : ∀ {x : List (Int × Int)} {lo hi : Int}, Norm lo hi x → (x.map (·.1)).Pairwise (· < ·)
  | [], _, _, _ => List.Pairwise.nil
  | s :: x, lo, hi, ⟨a, b, c, d⟩ => by
    rw [List.map_cons, List.pairwise_cons]
    refine ⟨fun z hz => ?_, Norm.asc d⟩
    obtain ⟨t, ht, rfl⟩ := List.mem_map.mp hz
    have := d.len_le t ht; omega
theorem meet_len {x y : List (Int × Int)} {lo hi lo' hi' : Int} (hx : Norm lo hi x) (hy : Norm lo' hi' y) : (meetS x y).length ≤ x.length + y.length := by
  have := sub_len (ns := x.map (·.1) ++ y.map (·.1)) (meet_norm hy hx).asc fun z hz => by
    obtain ⟨r, hr, rfl⟩ := List.mem_map.mp hz
    unfold meetS at hr
    obtain ⟨s, hs, hr⟩ := List.mem_flatMap.mp hr
    obtain ⟨t, ht, e⟩ := List.mem_filterMap.mp hr
    obtain ⟨_, rfl⟩ := inter_some.mp e
    rw [List.mem_append]
    show mx s.1 t.1 ∈ _ ∨ _
    unfold mx
    split
    · exact .inr (List.mem_map.mpr ⟨t, ht, rfl⟩)
    · exact .inl (List.mem_map.mpr ⟨s, hs, rfl⟩)
  simpa using this
theorem IsSet.meet {g : Int} {G G' : Int → Prop} {x y : List (Int × Int)} (h : IsSet g G x) (h' : IsSet g G' y) : IsSet g (fun u => G u ∧ G' u) (meetS x y) :=
  ⟨meet_norm h'.norm h.norm, fun u => by
    rw [meet_mem, h.mem, h'.mem]
    constructor
    · rintro ⟨⟨a, b⟩, _, d⟩; exact ⟨a, b, d⟩
    · rintro ⟨a, b, d⟩; exact ⟨⟨a, b⟩, a, d⟩⟩
theorem IsSet.all {g : Int} (hg : 0 < g) : IsSet g (fun _ => True) [(0, g)] := ⟨⟨Int.le_refl _, hg, Int.le_refl _, trivial⟩, fun u => by
  rw [memS_cons]; simp [memS_nil]⟩
theorem IsSet.iff {g : Int} {G G' : Int → Prop} {x : List (Int × Int)} (h : IsSet g G x) (e : ∀ u, G u ↔ G' u) : IsSet g G' x := ⟨h.norm, fun u => by rw [h.mem, e]⟩

/-! ### sets of cuts over a number of units -/
structure InG (g : Int) (x : List (Int × Int)) : Prop where
  pos : 0 < g
  big : g.natAbs < 2 ^ 3800
  ends : ∀ s ∈ x, (0 ≤ s.1 ∧ s.1 ≤ g) ∧ (0 ≤ s.2 ∧ s.2 ≤ g)
theorem Norm.inG {g : Int} {x : List (Int × Int)} (h : Norm 0 g x) (hg : 0 < g) (hb : g.natAbs < 2 ^ 3800) : InG g x := ⟨hg, hb, fun s hs => by have := h.len_le s hs; omega⟩
theorem fr_lt {a b g n m n' m' : Int} (hg : 0 < g) (hm : 0 < m) (hm' : 0 < m') (h1 : n * g = a * m) (h2 : n' * g = b * m') : n * m' < n' * m ↔ a < b := by
  have e1 : (n * m') * g = a * (m * m') := by rw [show (n * m') * g = (n * g) * m' from by grind, h1]; grind
  have e2 : (n' * m) * g = b * (m * m') := by rw [show (n' * m) * g = (n' * g) * m from by grind, h2]; grind
  have hmm := Int.mul_pos hm hm'
  constructor
  · intro h
    have := Int.mul_lt_mul_of_pos_right h hg
    rw [e1, e2] at this
    exact Int.lt_of_mul_lt_mul_right this (Int.le_of_lt hmm)
  · intro h
    have := Int.mul_lt_mul_of_pos_right h hmm
    rw [← e1, ← e2] at this
    exact Int.lt_of_mul_lt_mul_right this (Int.le_of_lt hg)
theorem less_low {R : PyData → Prop} {g a b : Int} (hg : 0 < g) (bg : g.natAbs < 2 ^ 3800) (ha : a.natAbs < 2 ^ 3900) (hb : b.natAbs < 2 ^ 3900) (h : R (.bool (decide (a < b)))) : spec_two 3900 lessD [lowD a g, lowD b g] R := by
  obtain ⟨n, m, e1, r1, h1, b1, b2⟩ := low_is (t := a) (Int.ne_of_gt hg)
  obtain ⟨n', m', e2, r2, h2, b3, b4⟩ := low_is (t := b) (Int.ne_of_gt hg)
  rw [e1, e2]
  have bg' := lt_up bg (by decide : 3800 ≤ 3900)
  refine ⟨n, m, n', m', rfl, r1.ne, r2.ne, ⟨by omega, by omega, by omega, by omega⟩, ?_⟩
  have : lessD n m n' m' = .bool (decide (a < b)) := congrArg PyData.bool (decide_eq_decide.mpr (fr_lt hg r1.1 r2.1 h1 h2))
  rw [this]; exact h
theorem low_inj {g a b : Int} (hg : 0 < g) (h : lowD a g = lowD b g) : a = b := by
  obtain ⟨n, m, e1, r1, h1, _⟩ := low_is (t := a) (Int.ne_of_gt hg)
  obtain ⟨n', m', e2, r2, h2, _⟩ := low_is (t := b) (Int.ne_of_gt hg)
  rw [e1, e2] at h
  simp only [PyData.tuple.injEq, List.cons.injEq, PyData.int.injEq, and_true] at h
  obtain ⟨rfl, rfl⟩ := h
  exact Int.eq_of_mul_eq_mul_right r1.ne (h1.symm.trans h2)
theorem eqv_low {g : Int} (a b : Int) (hg : 0 < g) : PyData.eqv (lowD a g) (lowD b g) = decide (a = b) := by
  obtain ⟨n, m, e1, r1, h1, _⟩ := low_is (t := a) (Int.ne_of_gt hg)
  obtain ⟨n', m', e2, r2, h2, _⟩ := low_is (t := b) (Int.ne_of_gt hg)
  by_cases h : a = b
  · subst h
    rw [decide_eq_true rfl]
    exact eqv_self (k := 1) (lay_low (k := 0) (Int.ne_of_gt hg))
  · rw [decide_eq_false h, e1, e2, eqv_rat]
    rw [← Bool.not_eq_true]
    simp only [Bool.and_eq_true, decide_eq_true_eq]
    rintro ⟨rfl, rfl⟩
    exact h (low_inj hg (e1.trans e2.symm))
theorem low_zero {g : Int} (hg : 0 < g) : lowD 0 g = .tuple [.int 0, .int 1] := low_uniq (Int.ne_of_gt hg) (ratOne 0) (by rw [Int.zero_mul, Int.zero_mul])
theorem low_full {g : Int} (hg : 0 < g) : lowD g g = .tuple [.int 1, .int 1] := low_uniq (Int.ne_of_gt hg) (ratOne 1) (by rw [Int.one_mul, Int.mul_one])
theorem span_scale {g k : Int} (hg : 0 < g) (hk : 0 < k) (s : Int × Int) : spanD (g * k) (s.1 * k, s.2 * k) = spanD g s := by
  unfold spanD
  rw [low_mul (Int.ne_of_gt hg) (Int.ne_of_gt hk), low_mul (Int.ne_of_gt hg) (Int.ne_of_gt hk)]
def scaleS (k : Int) (x : List (Int × Int)) : List (Int × Int) := x.map fun s => (s.1 * k, s.2 * k)
theorem scale_D {g k : Int} (hg : 0 < g) (hk : 0 < k) (x : List (Int × Int)) : (scaleS k x).map (spanD (g * k)) = x.map (spanD g) := by
  unfold scaleS
  rw [List.map_map]
  exact List.map_congr_left fun s _ => span_scale hg hk s
theorem scale_norm {k : Int} (hk : 0 < k) : ∀ {x : List (Int × Int)} {lo hi : Int}, Norm lo hi x → Norm (lo * k) (hi * k) (scaleS k x)
  | [], _, _, _ => trivial
  | s :: r, lo, hi, ⟨a, b, c, d⟩ => by
    have m : ∀ {p q : Int}, p ≤ q → p * k ≤ q * k := fun h => Int.mul_le_mul_of_nonneg_right h (Int.le_of_lt hk)
    refine ⟨m a, Int.mul_lt_mul_of_pos_right b hk, m c, (scale_norm hk d).mono ?_ (Int.le_refl _)⟩
    show s.2 * k + 1 ≤ (s.2 + 1) * k
    rw [Int.add_mul]; omega
theorem scale_mem {k u : Int} (hk : 0 < k) (x : List (Int × Int)) : memS (scaleS k x) u ↔ memS x (u / k) := by
  unfold memS scaleS
  constructor
  · rintro ⟨t, ht, h1, h2⟩
    obtain ⟨s, hs, rfl⟩ := List.mem_map.mp ht
    exact ⟨s, hs, (Int.le_ediv_iff_mul_le hk).mpr h1, (Int.ediv_lt_iff_lt_mul hk).mpr h2⟩
  · rintro ⟨s, hs, h1, h2⟩
    exact ⟨_, List.mem_map.mpr ⟨s, hs, rfl⟩, (Int.le_ediv_iff_mul_le hk).mp h1, (Int.ediv_lt_iff_lt_mul hk).mp h2⟩
theorem lay_spans {k : Nat} {g : Int} (hg : 0 < g) (x : List (Int × Int)) : lay (k + 3) (.list (x.map (spanD g))) := lay_list fun y hy => by
  obtain ⟨s, _, rfl⟩ := List.mem_map.mp hy
  refine lay_tup fun z hz => ?_
  simp only [List.mem_cons, List.not_mem_nil, or_false] at hz
  rcases hz with rfl | rfl <;> exact lay_low (Int.ne_of_gt hg)
theorem div_low (a b : Int) {g : Int} (hg : g ≠ 0) : Rat.divInt a g + Rat.divInt b g = Rat.divInt (a + b) g := by
  rw [Rat.divInt_add_divInt _ _ hg hg]
  refine (Rat.divInt_eq_divInt_iff (Int.mul_ne_zero hg hg) hg).mpr ?_
  grind
theorem plus_low {R : PyData → Prop} {g a b : Int} (hg : 0 < g) (bg : g.natAbs < 2 ^ 3800) (ha : a.natAbs < 2 ^ 3900) (hb : b.natAbs < 2 ^ 3900) (h : R (lowD (a + b) g)) : spec_two 3900 plusD [lowD a g, lowD b g] R := by
  have g0 := Int.ne_of_gt hg
  have bg' := lt_up bg (by decide : 3800 ≤ 3900)
  rw [low_rat g0, low_rat g0]
  refine two_rat (Bd.low g0 ha bg') (Bd.low g0 hb bg') ?_
  rw [plus_rat, div_low _ _ g0, ← low_rat g0]; exact h
theorem minus_low {R : PyData → Prop} {g a b : Int} (hg : 0 < g) (bg : g.natAbs < 2 ^ 3800) (ha : a.natAbs < 2 ^ 3900) (hb : b.natAbs < 2 ^ 3900) (h : R (lowD (a - b) g)) : spec_two 3900 minusD [lowD a g, lowD b g] R := by
  have g0 := Int.ne_of_gt hg
  have bg' := lt_up bg (by decide : 3800 ≤ 3900)
  rw [low_rat g0, low_rat g0]
  refine two_rat (Bd.low g0 ha bg') (Bd.low g0 hb bg') ?_
  have e : Rat.divInt a g - Rat.divInt b g = Rat.divInt (a - b) g := by
    have := div_low (a - b) b g0
    rw [show a - b + b = a from by omega] at this
    rw [← this]; grind
  rw [minus_rat, e, ← low_rat g0]; exact h
def spec_setP (f : Int → List (Int × Int) → List (Int × Int) → PyData) (ds : List PyData) (R : PyData → Prop) : Prop := ∃ (g : Int) (x y : List (Int × Int)), ds = [.list (x.map (spanD g)), .list (y.map (spanD g))] ∧ InG g x ∧ InG g y ∧ x.length ≤ 1000 ∧ y.length ≤ 1000 ∧ R (f g x y)
/-! what is asked of any thing -/
def lessB : PyData → PyData → Bool
  | .tuple [.int a, .int b], .tuple [.int c, .int d] => decide (a * d < c * b)
  | _, _ => false
def posB : PyData → Bool
  | .tuple [.int a, .int _] => decide (0 ≤ a)
  | _ => false
def spanB : PyData → Bool
  | .tuple [x, y] => (ratioB x && ratioB y) && (posB x && (lessB x y && !lessB (.tuple [.int 1, .int 1]) y))
  | _ => false
/-- its numbers are not too large for a product -/
def SmallR (k : Nat) : PyData → Prop
  | .tuple [.int a, .int b] => a.natAbs < 2 ^ k ∧ b.natAbs < 2 ^ k
  | _ => True
def SmallS (k : Nat) : PyData → Prop
  | .tuple [x, y] => SmallR k x ∧ SmallR k y
  | _ => True
def gapsB : List PyData → Bool
  | .tuple [x, y] :: .tuple [z, w] :: r => lessB y z && gapsB (.tuple [z, w] :: r)
  | _ => true
def cutsB : PyData → Bool
  | .list xs => xs.all spanB && gapsB xs
  | _ => false

/-! ### is_span -/
def spec_is_span (ds : List PyData) (R : PyData → Prop) : Prop := ∃ d, ds = [d] ∧ SmallS 3800 d ∧ R (.bool (spanB d))
theorem len_is_span {ds : List PyData} {R : PyData → Prop} (h : spec_is_span ds R) : (dA ds).length = 1 := by
  obtain ⟨_, rfl, _⟩ := h; rfl
@[reducible] def ratF (d : PyData) : PyData := .bool (ratioB d)
theorem ratio_is {x : PyData} (h : ratioB x = true) : ∃ a b : Int, x = .tuple [.int a, .int b] ∧ RatOk a b := by
  unfold ratioB at h
  split at h
  · rename_i a b
    simp only [Bool.and_eq_true, decide_eq_true_eq] at h
    exact ⟨a, b, rfl, h.1, by have := h.2; omega⟩
  · cases h
theorem ok_is_span (T : Top K w mg a_u_law_bag d_u_law_bag a_is_less d_is_less a_is_integer d_is_integer a_common d_common a_is_ratio d_is_ratio a_is_span d_is_span a_is_cuts d_is_cuts a_u_law_take d_u_law_take a_u_law_drawn_grain d_u_law_drawn_grain a_u_law_part d_u_law_part a_u_law_lowest d_u_law_lowest a_u_law_form d_u_law_form a_u_law_units d_u_law_units a_u_law_odd d_u_law_odd a_u_law_end d_u_law_end a_u_law_changed d_u_law_changed a_u_law_is_ratio d_u_law_is_ratio a_u_law_is_span d_u_law_is_span a_u_law_is_set d_u_law_is_set a_law d_law) (G_is_less : FnOkG P w K mg base 1 a_is_less d_is_less ["one", "other"] (upF K (pur (spec_two 3900 lessD)))) (G_is_ratio : FnOkG P w K mg base 2 a_is_ratio d_is_ratio ["thing"] (upF K (pur spec_is_ratio))) :
    FnOkG P w K mg base 3 a_is_span d_is_span ["thing"] (upF K (pur spec_is_span)) := by
  refine okP (k := 2) T.F_is_span sc_is_span (n := 4) rfl ?len (fun cdv A outer s H E hr hgs => (wss_consB (ws_if (WW.wt (ww_or (wt_not (w_val (w_isi .tuple (by rfl) T.m_isinstance (by rfl) T.m_tuple (by decide +kernel) (w_var 0) (fun t h => pe_callB call_isi (by rfl) T.m_isinstance (by decide +kernel) (pa_cons h (pa_cons (pe_bltn (v := .ty "tuple") (by rfl) T.m_tuple (by decide +kernel) rfl) pa_nil)))))) (ww_or (wt_ne hr (w_bi ok_len (wa_cons (w_var 0) wa_nil) (fun t h => pe_callB (call_len_seq.or call_len_str) (by rfl) T.m_len (by decide +kernel) h)) w_int) (ww_or1 (wt_not (w_val (w_bi ok_all (wa_cons (w_ne (wn_lc (own := [("end", 3)]) rfl sc_is_span.nd (wi_tup (w_var 0)) (blkOk_by (N := ["thing", "low", "high", "end"]) (sc := defScope s_is_span) (by decide +kernel)) (by decide) (fun _ _ _ _ _ => (wg_name (i := 3) sc_is_span.nd rfl (.inl rfl))) (fun _ _ _ _ _ => wts_nil) (fun _ _ _ _ _ => (w_call G_is_ratio hr hgs (by rfl) T.g_is_ratio T.F_is_ratio.kp T.b_is_ratio (wa_cons (w_var 3) wa_nil))))) wa_nil) (fun t h => pe_callB (cr_all rfl) (by rfl) T.m_all (by decide +kernel) h)))))))) (wss_one (ws_ret w_bl)) wss_nil)
      (wss_consB (ws_asg (w_var 0) (wg_tup (n := 2) rfl (wgs_cons (wg_name (i := 1) sc_is_span.nd rfl (.inl rfl)) (wgs_cons (wg_name (i := 2) sc_is_span.nd rfl (.inl rfl)) wgs_nil))))
      (wss_one (ws_ret (we_and (w_ge (w_ix (w_var 1) w_int (fun _ _ => rfl)) w_int) (we_and (w_call G_is_less (hr.mono (by decide)) hgs (by rfl) T.g_is_less T.F_is_less.kp T.b_is_less (wa_cons (w_var 1) (wa_cons (w_var 2) wa_nil))) (we_one (we_not (w_call G_is_less (hr.mono (by decide)) hgs (by rfl) T.g_is_less T.F_is_less.kp T.b_is_less (wa_cons (w_cst T.w_END (by rfl)) (wa_cons (w_var 2) wa_nil)))))))))))) ?body
  case len =>
    rintro args S R ⟨rfl, ds, R0, rfl, h, q⟩
    exact len_is_span h
  case body =>
    rintro args S R ⟨rfl, ds, R0, rfl, h, q⟩
    obtain ⟨d, rfl, sm, hR⟩ := h
    cases d with
    | tuple xs =>
      walk_at "n"
      refine brN (fun hl => ?_) (fun hl => ?_)
      · refine q _ ?_ _
        match xs, hR, hl with
        | [], hR, _ => exact hR
        | [_], hR, _ => exact hR
        | [_, _], _, hl => exact absurd rfl hl
        | _ :: _ :: _ :: _, hR, _ => exact hR
      match xs, hR, hl, sm with
      | [x, y], hR, _, sm =>
        walk_at "n"
        refine lcb_map ratF (show 2 ≤ sizeLine by decide) (fun d hd k hk => ?_) ?_
        · walk_at "n"
          refine ⟨d, rfl, ?_⟩
          exact hk
        have es : spanB (.tuple [x, y]) = ((ratioB x && ratioB y) && (posB x && (lessB x y && !lessB (.tuple [.int 1, .int 1]) y))) := rfl
        rw [es] at hR
        cases ex : ratioB x with
        | false =>
          walk_at "n"
          rw [ex] at hR ⊢
          walk_at "n"
          exact q _ hR _
        | true =>
          cases ey : ratioB y with
          | false =>
            walk_at "n"
            rw [ex, ey] at hR ⊢
            walk_at "n"
            exact q _ hR _
          | true =>
            obtain ⟨a, b, rfl, r1⟩ := ratio_is ex
            obtain ⟨c, e, rfl, r2⟩ := ratio_is ey
            obtain ⟨⟨s1, s2⟩, s3, s4⟩ := sm
            walk_at "n"
            rw [ex, ey] at hR ⊢
            walk_at "n"
            have ep : posB (.tuple [.int a, .int b]) = decide (0 ≤ a) := rfl
            have el : lessB (.tuple [.int a, .int b]) (.tuple [.int c, .int e]) = decide (a * e < c * b) := rfl
            have em : lessB (.tuple [.int 1, .int 1]) (.tuple [.int c, .int e]) = decide (1 * e < c * 1) := rfl
            rw [ep, el, em] at hR
            refine brD (fun h1 => ?_) (fun h1 => ?_)
            · rw [decide_eq_true h1] at hR
              walk_at "n"
              refine ⟨a, b, c, e, rfl, r1.ne, r2.ne, ⟨lt_up s1 (by decide), lt_up s2 (by decide), lt_up s3 (by decide), lt_up s4 (by decide)⟩, ?_⟩
              refine brD (fun h2 => ?_) (fun h2 => ?_)
              · rw [decide_eq_true h2] at hR
                walk_at "n"
                refine ⟨1, 1, c, e, rfl, by decide, r2.ne, ⟨by decide, by decide, lt_up s3 (by decide), lt_up s4 (by decide)⟩, ?_⟩
                walk_at "n"
                rw [Pu.bnot_eq]
                exact q _ hR _
              · rw [decide_eq_false h2] at hR
                exact q _ hR _
            · rw [decide_eq_false h1] at hR
              exact q _ hR _
      | [], _, hl, _ => simp at hl
      | [_], _, hl, _ => simp at hl
      | _ :: _ :: _ :: _, _, hl, _ => simp only [List.length_cons] at hl; omega
    | _ => exact q _ hR []
/-! ### is_cuts -/
def SmallC (k : Nat) : PyData → Prop
  | .list xs => xs.length ≤ 1000 ∧ ∀ x ∈ xs, SmallS k x
  | _ => True
def spec_is_cuts (ds : List PyData) (R : PyData → Prop) : Prop := ∃ d, ds = [d] ∧ SmallC 3800 d ∧ R (.bool (cutsB d))
theorem len_is_cuts {ds : List PyData} {R : PyData → Prop} (h : spec_is_cuts ds R) : (dA ds).length = 1 := by
  obtain ⟨_, rfl, _⟩ := h; rfl
@[reducible] def spanF (d : PyData) : PyData := .bool (spanB d)
theorem spanF_D (xs : List PyData) : mapD spanF xs = (xs.map spanB).map PyData.bool := by
  rw [mapD_eq, List.map_map]; rfl
theorem allB_eq : ∀ bs : List Bool, Pu.allB bs = bs.all id
  | [] => rfl
  | b :: bs => by
    rw [List.all_cons, ← allB_eq bs]
    cases b <;> rfl
@[reducible] def gapF : PyData → PyData
  | .tuple [.tuple [_, y], .tuple [z, _]] => .bool (lessB y z)
  | _ => .bool true
def gapP : PyData → Bool
  | .tuple [.tuple [_, y], .tuple [z, _]] => lessB y z
  | _ => true
theorem gap_F (d : PyData) : gapF d = .bool (gapP d) := by
  unfold gapF gapP
  split <;> rfl
theorem span_is {x : PyData} (h : spanB x = true) : ∃ a b c e : Int, x = .tuple [.tuple [.int a, .int b], .tuple [.int c, .int e]] ∧ RatOk a b ∧ RatOk c e := by
  unfold spanB at h
  split at h
  · rename_i x y
    simp only [Bool.and_eq_true] at h
    obtain ⟨a, b, rfl, r1⟩ := ratio_is h.1.1
    obtain ⟨c, e, rfl, r2⟩ := ratio_is h.1.2
    exact ⟨a, b, c, e, rfl, r1, r2⟩
  · cases h
theorem gaps_zip : ∀ {xs : List PyData}, (∀ x ∈ xs, spanB x = true) → (zipD xs (xs.drop 1)).all gapP = gapsB xs
  | [], _ => rfl
  | [x], _ => by
    unfold gapsB
    split
    · rename_i h; cases h
    · rfl
  | x :: y :: r, h => by
    have ih := gaps_zip (xs := y :: r) fun z hz => h z (List.mem_cons_of_mem _ hz)
    obtain ⟨a, b, c, e, rfl, _, _⟩ := span_is (h x (by simp))
    obtain ⟨a', b', c', e', rfl, _, _⟩ := span_is (h y (by simp))
    show (gapP _ && List.all (zipD _ _) gapP) = _
    rw [show gapsB (.tuple [.tuple [.int a, .int b], .tuple [.int c, .int e]] :: .tuple [.tuple [.int a', .int b'], .tuple [.int c', .int e']] :: r) = (lessB (.tuple [.int c, .int e]) (.tuple [.int a', .int b']) && gapsB (.tuple [.tuple [.int a', .int b'], .tuple [.int c', .int e']] :: r)) from rfl, ← ih]
    rfl
theorem cuts_ok {g : Int} (hg : 0 < g) : ∀ {x : List (Int × Int)} {lo : Int}, 0 ≤ lo → Norm lo g x → cutsB (.list (x.map (spanD g))) = true := by
  have one : ∀ {s : Int × Int}, 0 ≤ s.1 → s.1 < s.2 → s.2 ≤ g → spanB (spanD g s) = true := fun {s} h0 h1 h2 => by
    obtain ⟨n, m, e1, r1, k1, _⟩ := low_is (t := s.1) (Int.ne_of_gt hg)
    obtain ⟨n', m', e2, r2, k2, _⟩ := low_is (t := s.2) (Int.ne_of_gt hg)
    unfold spanD
    rw [e1, e2]
    have lt := (fr_lt hg r1.1 r2.1 k1 k2).mpr h1
    have l0 := fr_lt hg r1.1 (show (0 : Int) < 1 by decide) k1 (show (0 : Int) * g = 0 * 1 by rw [Int.zero_mul, Int.zero_mul])
    have l1 := fr_lt hg (show (0 : Int) < 1 by decide) r2.1 (show (1 : Int) * g = g * 1 by rw [Int.one_mul, Int.mul_one]) k2
    show ((ratioB _ && ratioB _) && (decide (0 ≤ n) && (decide (n * m' < n' * m) && !decide (1 * m' < n' * 1)))) = true
    rw [ratB r1, ratB r2, decide_eq_true lt, decide_eq_true (by omega), decide_eq_false (by omega)]
    rfl
  intro x
  induction x with
  | nil => intro lo _ _; rfl
  | cons s r ih =>
    intro lo h0 ⟨a, b, c, d⟩
    have i := ih (by omega) d
    have o := one (by omega) b c
    unfold cutsB at *
    rw [Bool.and_eq_true] at i ⊢
    rw [List.map_cons, List.all_cons, o, i.1]
    refine ⟨rfl, ?_⟩
    cases r with
    | nil => rfl
    | cons t r =>
      obtain ⟨a2, _⟩ := d
      obtain ⟨n, m, e1, r1, k1, _⟩ := low_is (t := s.2) (Int.ne_of_gt hg)
      obtain ⟨n', m', e2, r2, k2, _⟩ := low_is (t := t.1) (Int.ne_of_gt hg)
      have lt := (fr_lt hg r1.1 r2.1 k1 k2).mpr (by omega)
      show (lessB (lowD s.2 g) (lowD t.1 g) && gapsB ((t :: r).map (spanD g))) = true
      rw [i.2, e1, e2]
      show (decide (n * m' < n' * m) && true) = true
      rw [decide_eq_true lt]; rfl
theorem small_spans {g : Int} {x : List (Int × Int)} (h : InG g x) (hl : x.length ≤ 1000) : SmallC 3800 (.list (x.map (spanD g))) := by
  refine ⟨by rw [List.length_map]; exact hl, fun y hy => ?_⟩
  obtain ⟨s, hs, rfl⟩ := List.mem_map.mp hy
  obtain ⟨⟨s0, s1⟩, s2, s3⟩ := h.ends s hs
  have bg := h.big
  have hg := h.pos
  have key : ∀ a, 0 ≤ a → a ≤ g → SmallR 3800 (lowD a g) := fun a h0 h1 => by
    obtain ⟨n, m, e1, r1, k1, b1, b2⟩ := low_is (t := a) (Int.ne_of_gt hg)
    rw [e1]
    exact ⟨by omega, by omega⟩
  exact ⟨key _ s0 s1, key _ s2 s3⟩
theorem cut_tail (xs : List PyData) : cutL xs (some 1) none = xs.drop 1 := by
  cases xs with
  | nil => rfl
  | cons x xs => exact cut_from (by decide) (by simp only [List.length_cons]; omega)
theorem zip_mem : ∀ {xs ys : List PyData} {d : PyData}, d ∈ zipD xs ys → ∃ x y, x ∈ xs ∧ y ∈ ys ∧ d = .tuple [x, y]
  | [], _, _, h => by simp [zipD] at h
  | _ :: _, [], _, h => by simp [zipD] at h
  | x :: xs, y :: ys, d, h => by
    rcases List.mem_cons.mp h with rfl | h
    · exact ⟨x, y, by simp, by simp, rfl⟩
    · obtain ⟨a, b, ha, hb, e⟩ := zip_mem h
      exact ⟨a, b, List.mem_cons_of_mem _ ha, List.mem_cons_of_mem _ hb, e⟩
theorem zip_len : ∀ xs ys : List PyData, (zipD xs ys).length ≤ xs.length
  | [], _ => by simp [zipD]
  | _ :: _, [] => by simp [zipD]
  | x :: xs, y :: ys => by have := zip_len xs ys; simp only [zipD, List.length_cons]; omega
theorem ok_is_cuts (T : Top K w mg a_u_law_bag d_u_law_bag a_is_less d_is_less a_is_integer d_is_integer a_common d_common a_is_ratio d_is_ratio a_is_span d_is_span a_is_cuts d_is_cuts a_u_law_take d_u_law_take a_u_law_drawn_grain d_u_law_drawn_grain a_u_law_part d_u_law_part a_u_law_lowest d_u_law_lowest a_u_law_form d_u_law_form a_u_law_units d_u_law_units a_u_law_odd d_u_law_odd a_u_law_end d_u_law_end a_u_law_changed d_u_law_changed a_u_law_is_ratio d_u_law_is_ratio a_u_law_is_span d_u_law_is_span a_u_law_is_set d_u_law_is_set a_law d_law) (G_is_less : FnOkG P w K mg base 1 a_is_less d_is_less ["one", "other"] (upF K (pur (spec_two 3900 lessD)))) (G_is_span : FnOkG P w K mg base 3 a_is_span d_is_span ["thing"] (upF K (pur spec_is_span))) :
    FnOkG P w K mg base 4 a_is_cuts d_is_cuts ["thing"] (upF K (pur spec_is_cuts)) := by
  refine okP (k := 3) T.F_is_cuts sc_is_cuts (n := 4) rfl ?len (fun cdv A outer s H E hr hgs => (wss_consB (ws_if (WW.wt (ww_or (wt_not (w_val (w_isi .list (by rfl) T.m_isinstance (by rfl) T.m_list (by decide +kernel) (w_var 0) (fun t h => pe_callB call_isi (by rfl) T.m_isinstance (by decide +kernel) (pa_cons h (pa_cons (pe_bltn (v := .ty "list") (by rfl) T.m_list (by decide +kernel) rfl) pa_nil)))))) (ww_or1 (wt_not (w_val (w_bi ok_all (wa_cons (w_ne (wn_lc (own := [("span", 1)]) rfl sc_is_cuts.nd (wi_list (w_var 0)) (blkOk_by (N := ["thing", "span", "one", "other"]) (sc := defScope s_is_cuts) (by decide +kernel)) (by decide) (fun _ _ _ _ _ => (wg_name (i := 1) sc_is_cuts.nd rfl (.inl rfl))) (fun _ _ _ _ _ => wts_nil) (fun _ _ _ _ _ => (w_call G_is_span hr hgs (by rfl) T.g_is_span T.F_is_span.kp T.b_is_span (wa_cons (w_var 1) wa_nil))))) wa_nil) (fun t h => pe_callB (cr_all rfl) (by rfl) T.m_all (by decide +kernel) h))))))) (wss_one (ws_ret w_bl)) wss_nil)
      (wss_one (ws_ret (w_bi ok_all (wa_cons (w_ne (wn_lc (own := [("one", 2), ("other", 3)]) rfl sc_is_cuts.nd (wi_zip (wa_cons (w_var 0) (wa_cons (w_ne (wn_slice (w_var 0) (wo_some w_int) wo_none)) wa_nil)) (fun t h => pi_zip (by rfl) T.m_zip h)) (blkOk_by (N := ["thing", "span", "one", "other"]) (sc := defScope s_is_cuts) (by decide +kernel)) (by decide) (fun _ _ _ _ _ => (wg_tup (n := 2) rfl (wgs_cons (wg_name (i := 2) sc_is_cuts.nd rfl (.inl rfl)) (wgs_cons (wg_name (i := 3) sc_is_cuts.nd rfl (.inl rfl)) wgs_nil)))) (fun _ _ _ _ _ => wts_nil) (fun _ _ _ _ _ => (w_call G_is_less (hr.mono (by decide)) hgs (by rfl) T.g_is_less T.F_is_less.kp T.b_is_less (wa_cons (w_ix (w_var 2) w_int (fun _ _ => rfl)) (wa_cons (w_ix (w_var 3) w_int (fun _ _ => rfl)) wa_nil)))))) wa_nil) (fun t h => pe_callB (cr_all rfl) (by rfl) T.m_all (by decide +kernel) h)))))) ?body
  case len =>
    rintro args S R ⟨rfl, ds, R0, rfl, h, q⟩
    exact len_is_cuts h
  case body =>
    rintro args S R ⟨rfl, ds, R0, rfl, h, q⟩
    obtain ⟨d, rfl, sm, hR⟩ := h
    cases d with
    | list xs =>
      obtain ⟨lx, sx⟩ := sm
      have es : cutsB (.list xs) = (xs.all spanB && gapsB xs) := rfl
      rw [es] at hR
      walk_at "n"
      refine lcb_map spanF (Nat.le_trans lx (by decide)) (fun d hd k hk => ?_) ?_
      · walk_at "n"
        refine ⟨d, rfl, sx d hd, ?_⟩
        exact hk
      rw [spanF_D]
      walk_at "n"
      rw [Pu.boolsD_map]
      walk_at "n"
      rw [allB_eq, List.all_map]
      rw [show (List.all xs (id ∘ spanB)) = xs.all spanB from rfl]
      cases ea : xs.all spanB with
      | false =>
        rw [ea] at hR
        walk_at "n"
        exact q _ hR _
      | true =>
        rw [ea] at hR
        walk_at "n"
        rw [cut_tail]
        have hz : ∀ x ∈ xs, spanB x = true := fun x hx => List.all_eq_true.mp ea x hx
        refine lcb_map gapF (Nat.le_trans (zip_len _ _) (Nat.le_trans lx (by decide))) (fun d hd k hk => ?_) ?_
        · obtain ⟨x, y, mx', my', rfl⟩ := zip_mem hd
          have my' := List.mem_of_mem_drop my'
          obtain ⟨a, b, c, e, rfl, r1, r2⟩ := span_is (hz x mx')
          obtain ⟨a', b', c', e', rfl, r3, r4⟩ := span_is (hz y my')
          have sx1 : SmallS 3800 (.tuple [.tuple [.int a, .int b], .tuple [.int c, .int e]]) := sx _ mx'
          have sy1 : SmallS 3800 (.tuple [.tuple [.int a', .int b'], .tuple [.int c', .int e']]) := sx _ my'
          obtain ⟨_, s1, s2⟩ := sx1
          obtain ⟨⟨s3, s4⟩, _⟩ := sy1
          walk_at "n"
          refine ⟨c, e, a', b', rfl, r2.ne, r3.ne, ⟨lt_up s1 (by decide), lt_up s2 (by decide), lt_up s3 (by decide), lt_up s4 (by decide)⟩, ?_⟩
          exact hk
        rw [show mapD gapF (zipD xs (xs.drop 1)) = ((zipD xs (xs.drop 1)).map gapP).map PyData.bool from by rw [mapD_eq, List.map_map]; exact List.map_congr_left fun d _ => gap_F d]
        walk_at "n"
        rw [Pu.boolsD_map]
        walk_at "n"
        rw [allB_eq, List.all_map]
        rw [show (List.all (zipD xs (xs.drop 1)) (id ∘ gapP)) = gapsB xs from gaps_zip hz]
        exact q _ hR _
    | _ => exact q _ hR []
/-! ### _law_take -/

theorem ok_u_law_take (T : Top K w mg a_u_law_bag d_u_law_bag a_is_less d_is_less a_is_integer d_is_integer a_common d_common a_is_ratio d_is_ratio a_is_span d_is_span a_is_cuts d_is_cuts a_u_law_take d_u_law_take a_u_law_drawn_grain d_u_law_drawn_grain a_u_law_part d_u_law_part a_u_law_lowest d_u_law_lowest a_u_law_form d_u_law_form a_u_law_units d_u_law_units a_u_law_odd d_u_law_odd a_u_law_end d_u_law_end a_u_law_changed d_u_law_changed a_u_law_is_ratio d_u_law_is_ratio a_u_law_is_span d_u_law_is_span a_u_law_is_set d_u_law_is_set a_law d_law)  :
    FnOkG P w K mg base 1 a_u_law_take d_u_law_take ["bag", "size"] (upF K (mutF spec_take)) := by
  refine okP (k := 0) T.F_u_law_take sc_u_law_take (n := 3) rfl ?len (fun cdv A outer s H E hr hgs => (wss_cons (ws_if (wt_gt (w_ix (w_var 0) w_int (fun _ _ => rfl)) w_int) (wss_cons (ws_set (i := 2) sc_u_law_take.nd rfl (.inl rfl) (w_mod (w_ix (w_var 0) w_int (fun _ _ => rfl)) (w_var 1)))
      (wss_cons (ws_sub (w_var 0) w_int (w_fdiv (w_ix (w_var 0) w_int (fun _ _ => rfl)) (w_var 1)))
      (wss_one (ws_ret (w_var 2))))) wss_nil)
      (wss_cons (ws_sub (w_var 0) w_int (w_mod (w_mul (w_ix (w_var 0) w_int (fun _ _ => rfl)) w_int) w_int))
      (wss_one (ws_ret (w_mod (w_fdiv (w_mod (w_mul (w_ix (w_var 0) w_int (fun _ _ => rfl)) w_int) w_int) (w_pow w_int w_int)) (w_var 1))))))) ?body
  case len =>
    rintro args S R ⟨xs, ds, R0, rfl, rfl, h, q⟩
    exact len_take h
  case body =>
    rintro args S R ⟨xs, ds, R0, rfl, rfl, h, q⟩
    obtain ⟨a, b, n, rfl, rfl, ⟨h0, h1, h2⟩, h3, h4, hR⟩ := h
    walk_at "w"
    refine brD (fun h5 => ?_) (fun h5 => ?_)
    · refine ⟨h3, ⟨h3, h4⟩, ?_⟩
      exact q _ _ (hR _ _ _ (Int.emod_nonneg _ (by omega)) (Int.emod_lt_of_pos _ h3) ⟨Int.ediv_nonneg h0 (by omega), h1, h2⟩) _
    · refine ⟨mulP (m := 40) (n := 40) (by omega) (by omega), pos, ?_⟩
      refine ⟨mulP (m := 40) (n := 40) (by omega) (by omega), pos, by decide, ⟨pos, by show (Int.natAbs 256).log2 < 9000; decide⟩, h3, ?_⟩
      exact q _ _ (hR _ _ _ (Int.emod_nonneg _ (by omega)) (Int.emod_lt_of_pos _ h3) ⟨h0, by omega, by omega⟩) _
/-! ### _law_drawn_grain -/

theorem ok_u_law_drawn_grain (T : Top K w mg a_u_law_bag d_u_law_bag a_is_less d_is_less a_is_integer d_is_integer a_common d_common a_is_ratio d_is_ratio a_is_span d_is_span a_is_cuts d_is_cuts a_u_law_take d_u_law_take a_u_law_drawn_grain d_u_law_drawn_grain a_u_law_part d_u_law_part a_u_law_lowest d_u_law_lowest a_u_law_form d_u_law_form a_u_law_units d_u_law_units a_u_law_odd d_u_law_odd a_u_law_end d_u_law_end a_u_law_changed d_u_law_changed a_u_law_is_ratio d_u_law_is_ratio a_u_law_is_span d_u_law_is_span a_u_law_is_set d_u_law_is_set a_law d_law) (G_u_law_take : FnOkG P w K mg base 1 a_u_law_take d_u_law_take ["bag", "size"] (upF K (mutF spec_take))) :
    FnOkG P w K mg base 2 a_u_law_drawn_grain d_u_law_drawn_grain ["bag"] (upF K (mutF (spec_draw (fun d => ∃ g : Int, d = .int g ∧ 1 ≤ g ∧ g ≤ 30)))) := by
  refine okP (k := 1) T.F_u_law_drawn_grain sc_u_law_drawn_grain (n := 1) rfl ?len (fun cdv A outer s H E hr hgs => (wss_one (ws_ret (w_ixJ (w_list (wa_cons (w_add w_int (w_callM G_u_law_take hr hgs (by rfl) T.g_u_law_take T.F_u_law_take.kp T.b_u_law_take (wa_cons (w_var 0) (wa_cons w_int wa_nil)))) (wa_cons w_int (wa_cons w_int (wa_cons w_int wa_nil))))) (w_callM G_u_law_take hr hgs (by rfl) T.g_u_law_take T.F_u_law_take.kp T.b_u_law_take (wa_cons (w_var 0) (wa_cons w_int wa_nil))) (fun _ _ => rfl))))) ?body
  case len =>
    rintro args S R ⟨xs, ds, R0, rfl, rfl, h, q⟩
    exact len_draw h
  case body =>
    rintro args S R ⟨xs, ds, R0, rfl, rfl, h, q⟩
    obtain ⟨a, b, rfl, rfl, ok, hR⟩ := h
    walk_at "n"
    refine ⟨a, b, 6, rfl, rfl, ok, by decide, by decide, fun y a1 b1 y0 y1 ok1 => ?_⟩
    walk_at "n"
    refine ⟨a1, b1, 4, rfl, rfl, ok1, by decide, by decide, fun i a2 b2 i0 i1 ok2 => ?_⟩
    have hx : ∃ g : Int, ixD [.int (1 + y), .int 12, .int 30, .int 7] i = some (.int g) ∧ 1 ≤ g ∧ g ≤ 30 := by
      have : i = 0 ∨ i = 1 ∨ i = 2 ∨ i = 3 := by omega
      rcases this with rfl | rfl | rfl | rfl
      · exact ⟨_, rfl, by omega, by omega⟩
      · exact ⟨_, rfl, by omega, by omega⟩
      · exact ⟨_, rfl, by omega, by omega⟩
      · exact ⟨_, rfl, by omega, by omega⟩
    obtain ⟨g, eg, g1, g2⟩ := hx
    refine ix_ok eg ?_
    exact q _ _ (hR _ _ _ ⟨g, rfl, g1, g2⟩ ok2) _
/-! ### _law_part -/

theorem ok_u_law_part (T : Top K w mg a_u_law_bag d_u_law_bag a_is_less d_is_less a_is_integer d_is_integer a_common d_common a_is_ratio d_is_ratio a_is_span d_is_span a_is_cuts d_is_cuts a_u_law_take d_u_law_take a_u_law_drawn_grain d_u_law_drawn_grain a_u_law_part d_u_law_part a_u_law_lowest d_u_law_lowest a_u_law_form d_u_law_form a_u_law_units d_u_law_units a_u_law_odd d_u_law_odd a_u_law_end d_u_law_end a_u_law_changed d_u_law_changed a_u_law_is_ratio d_u_law_is_ratio a_u_law_is_span d_u_law_is_span a_u_law_is_set d_u_law_is_set a_law d_law)  :
    FnOkG P w K mg base 1 a_u_law_part d_u_law_part ["one", "other"] (upF K (pur spec_gcd)) := by
  refine okP (k := 0) T.F_u_law_part sc_u_law_part (n := 2) rfl ?len (fun cdv A outer s H E hr hgs => (wss_cons (ws_while PassesOwn.never (wt_ne hr (w_var 1) w_int) (wss_one (ws_par (i := 0) (j := 1) rfl sc_u_law_part.nd rfl rfl (by decide) rfl rfl (wa_cons (w_var 1) (wa_cons (w_modS (w_var 0) (w_var 1)) wa_nil)) (by rfl))))
      (wss_one (ws_ret (w_bi ok_abs (wa_cons (w_var 0) wa_nil) (fun t h => pe_callB call_abs (by rfl) T.m_abs (by decide +kernel) h)))))) ?body
  case len =>
    rintro args S R ⟨rfl, ds, R0, rfl, h, q⟩
    exact len_gcd h
  case body =>
    rintro args S R ⟨rfl, ds, R0, rfl, h, q⟩
    obtain ⟨a, b, rfl, hR⟩ := h
    refine ⟨fun m ρ S => ∃ x y : Int, ρ = [some (.d (.int x)), some (.d (.int y))] ∧ S = [] ∧ m = y.natAbs ∧ Int.gcd x y = Int.gcd a b, ⟨_, a, b, rfl, rfl, rfl, rfl⟩, ?_⟩
    rintro m _ _ ⟨x, y, rfl, rfl, rfl, hg⟩
    walk_at "w"
    refine brN (fun hy => ?_) (fun hy => ?_)
    · exact ⟨hy, .inl ⟨_, fmod_abs_lt x hy, y, x.fmod y, rfl, rfl, rfl, by rw [gcd_fmod, hg]⟩⟩
    · subst hy
      refine q _ ?_ []
      rw [gcd_end, hg]; exact hR
/-! ### _law_lowest -/

theorem ok_u_law_lowest (T : Top K w mg a_u_law_bag d_u_law_bag a_is_less d_is_less a_is_integer d_is_integer a_common d_common a_is_ratio d_is_ratio a_is_span d_is_span a_is_cuts d_is_cuts a_u_law_take d_u_law_take a_u_law_drawn_grain d_u_law_drawn_grain a_u_law_part d_u_law_part a_u_law_lowest d_u_law_lowest a_u_law_form d_u_law_form a_u_law_units d_u_law_units a_u_law_odd d_u_law_odd a_u_law_end d_u_law_end a_u_law_changed d_u_law_changed a_u_law_is_ratio d_u_law_is_ratio a_u_law_is_span d_u_law_is_span a_u_law_is_set d_u_law_is_set a_law d_law) (G_u_law_part : FnOkG P w K mg base 1 a_u_law_part d_u_law_part ["one", "other"] (upF K (pur spec_gcd))) :
    FnOkG P w K mg base 2 a_u_law_lowest d_u_law_lowest ["top", "under"] (upF K (pur spec_low)) := by
  refine okP (k := 1) T.F_u_law_lowest sc_u_law_lowest (n := 3) rfl ?len (fun cdv A outer s H E hr hgs => (wss_cons (ws_set (i := 2) sc_u_law_lowest.nd rfl (.inl rfl) (w_call G_u_law_part hr hgs (by rfl) T.g_u_law_part T.F_u_law_part.kp T.b_u_law_part (wa_cons (w_var 0) (wa_cons (w_var 1) wa_nil))))
      (wss_cons (ws_ifJ (wt_lt (w_var 1) w_int) (wss_one (ws_set (i := 2) sc_u_law_lowest.nd rfl (.inl rfl) (w_neg (w_var 2)))) wss_nil)
      (wss_one (ws_ret (w_tup (wa_cons (w_fdivS (w_var 0) (w_var 2)) (wa_cons (w_fdivS (w_var 1) (w_var 2)) wa_nil)))))))) ?body
  case len =>
    rintro args S R ⟨rfl, ds, R0, rfl, h, q⟩
    exact len_low h
  case body =>
    rintro args S R ⟨rfl, ds, R0, rfl, h, q⟩
    obtain ⟨t, u, rfl, h0, hb, hR⟩ := h
    refine ⟨t, u, rfl, ?_⟩
    walk_at "w"
    refine j_if (fun ρ S => ρ = [some (.d (.int t)), some (.d (.int u)), some (.d (.int (sgd t u)))] ∧ S = []) ?_ ?_
    · by_cases hu : u < 0
      · exact ⟨_, _, ⟨by rw [show sgd t u = -((Int.gcd t u : Nat) : Int) from if_pos hu], rfl⟩, fun E' h => brT (decide_eq_true hu) h⟩
      · exact ⟨_, _, ⟨by rw [show sgd t u = ((Int.gcd t u : Nat) : Int) from if_neg hu], rfl⟩, fun E' h => brF (decide_eq_false hu) h⟩
    rintro _ _ ⟨rfl, rfl⟩
    have hs := sgd_ok (t := t) h0 hb
    exact ⟨hs, hs, q _ hR []⟩
/-! ### _law_form -/
def spec_form (ds : List PyData) (R : PyData → Prop) : Prop := ∃ (us : List Int) (g : Int), ds = [.list (us.map PyData.int), .int g] ∧ 1 ≤ g ∧ g ≤ 1000 ∧ ∀ x : List (Int × Int), IsSet g (fun u => u ∈ us) x → x.length ≤ g.toNat → R (.list (x.map (spanD g)))
theorem len_form {ds : List PyData} {R : PyData → Prop} (h : spec_form ds R) : (dA ds).length = 2 := by
  obtain ⟨_, _, rfl, _⟩ := h; rfl
def spF (g : Int) : PyData → PyData
  | .tuple [.int a, .int b] => spanD g (a, b)
  | _ => .none
theorem sp_F (g : Int) (x : List (Int × Int)) : mapD (spF g) (x.map ratD) = x.map (spanD g) := by
  rw [mapD_eq, List.map_map]
  exact List.map_congr_left fun s _ => rfl
theorem ok_u_law_form (T : Top K w mg a_u_law_bag d_u_law_bag a_is_less d_is_less a_is_integer d_is_integer a_common d_common a_is_ratio d_is_ratio a_is_span d_is_span a_is_cuts d_is_cuts a_u_law_take d_u_law_take a_u_law_drawn_grain d_u_law_drawn_grain a_u_law_part d_u_law_part a_u_law_lowest d_u_law_lowest a_u_law_form d_u_law_form a_u_law_units d_u_law_units a_u_law_odd d_u_law_odd a_u_law_end d_u_law_end a_u_law_changed d_u_law_changed a_u_law_is_ratio d_u_law_is_ratio a_u_law_is_span d_u_law_is_span a_u_law_is_set d_u_law_is_set a_law d_law) (G_u_law_lowest : FnOkG P w K mg base 2 a_u_law_lowest d_u_law_lowest ["top", "under"] (upF K (pur spec_low))) :
    FnOkG P w K mg base 3 a_u_law_form d_u_law_form ["units", "grain"] (upF K (pur spec_form)) := by
  refine okP (k := 2) T.F_u_law_form sc_u_law_form (n := 6) rfl ?len (fun cdv A outer s H E hr hgs => (wss_consB (ws_setN (i := 2) sc_u_law_form.nd rfl (.inl rfl) (wn_list wa_nil))
      (wss_consB (ws_for PassesOwn.never rfl (wi_range1 (by rfl) T.m_range (wa_cons (w_var 1) wa_nil)) (wg_name (i := 3) sc_u_law_form.nd rfl (.inl rfl)) (wss_one (ws_ifJ (wt_in hr (w_var 3) (w_var 0)) (wss_one (ws_ifJ (WW.wt (ww_and (wt_ne hr (w_var 2) (w_list wa_nil)) (ww_and1 (wt_eq hr (w_ix (w_ixJ (w_var 2) (w_neg w_int) (fun _ _ => rfl)) w_int (fun _ _ => rfl)) (w_var 3))))) (wss_one (ws_subJ (w_var 2) (w_neg w_int) (w_tup (wa_cons (w_ix (w_ixJ (w_var 2) (w_neg w_int) (fun _ _ => rfl)) w_int (fun _ _ => rfl)) (wa_cons (w_add (w_var 3) w_int) wa_nil))))) (wss_one (ws_expr (w_append (i := 2) (w_tup (wa_cons (w_var 3) (wa_cons (w_add (w_var 3) w_int) wa_nil))) (fun t h => pe_bm PySem.F.plainAttrs_list PySem.F.slot_list_append PySem.F.type_list_append mt_append (pv 2) (pa_cons h pa_nil))))))) wss_nil)))
      (wss_one (ws_ret (w_ne (wn_lc (own := [("low", 4), ("high", 5)]) rfl sc_u_law_form.nd (wi_list (w_fz (w_var 2))) (blkOk_by (N := ["units", "grain", "found", "unit", "low", "high"]) (sc := defScope s_u_law_form) (by decide +kernel)) (by decide) (fun _ _ _ _ _ => (wg_tup (n := 2) rfl (wgs_cons (wg_name (i := 4) sc_u_law_form.nd rfl (.inl rfl)) (wgs_cons (wg_name (i := 5) sc_u_law_form.nd rfl (.inl rfl)) wgs_nil)))) (fun _ _ _ _ _ => wts_nil) (fun _ _ _ _ _ => (w_tup (wa_cons (w_call G_u_law_lowest hr hgs (by rfl) T.g_u_law_lowest T.F_u_law_lowest.kp T.b_u_law_lowest (wa_cons (w_var 4) (wa_cons (w_var 1) wa_nil))) (wa_cons (w_call G_u_law_lowest hr hgs (by rfl) T.g_u_law_lowest T.F_u_law_lowest.kp T.b_u_law_lowest (wa_cons (w_var 5) (wa_cons (w_var 1) wa_nil))) wa_nil))))))))))) ?body
  case len =>
    rintro args S R ⟨rfl, ds, R0, rfl, h, q⟩
    exact len_form h
  case body =>
    rintro args S R ⟨rfl, ds, R0, rfl, h, q⟩
    obtain ⟨us, g, rfl, g1, g2, hR⟩ := h
    walk_at "n"
    refine ⟨by omega, fun i ρ S => ∃ (x : List (Int × Int)) (o1 : Option PV), ρ = [some (.d (.list (us.map PyData.int))), some (.d (.int g)), some (.cel 0), o1, none, none] ∧ S = [.lst (x.map ratD)] ∧ Norm 0 i x ∧ (∀ u, memS x u ↔ (0 ≤ u ∧ u < i) ∧ u ∈ us) ∧ x.length ≤ i, ⟨[], _, rfl, rfl, trivial, fun u => ⟨fun h => (memS_nil h).elim, fun h => by have := h.1; omega⟩, Nat.le_refl _⟩, ?_, ?_⟩
    · rintro i d _ _ hd ⟨x, o1, rfl, rfl, nx, mx, hl⟩
      obtain ⟨rfl, hi⟩ := rngD_at hd
      have ad := addS_ok (s := (((i : Nat) : Int), (i : Int) + 1)) nx (Int.le_refl _) (by show (0 : Int) ≤ i; omega) (by show (i : Int) < i + 1; omega)
      have yes : ((i : Nat) : Int) ∈ us → Norm 0 ((i + 1 : Nat) : Int) (addS x (((i : Nat) : Int), (i : Int) + 1)) ∧ (∀ u, memS (addS x (((i : Nat) : Int), (i : Int) + 1)) u ↔ (0 ≤ u ∧ u < ((i + 1 : Nat) : Int)) ∧ u ∈ us) ∧ (addS x (((i : Nat) : Int), (i : Int) + 1)).length ≤ i + 1 := fun hu => by
        refine ⟨by have := ad.1; exact_mod_cast this, fun u => ?_, by have := ad.2.2; omega⟩
        rw [ad.2.1 u, mx u]
        constructor
        · rintro (h | h)
          · exact ⟨by omega, h.2⟩
          · have : u = (i : Int) := by have := h.1; have := h.2; simp only at *; omega
            subst this
            exact ⟨by omega, hu⟩
        · rintro ⟨h, hm⟩
          by_cases z : u < (i : Int)
          · exact .inl ⟨by omega, hm⟩
          · exact .inr (by simp only; omega)
      have no : ¬ ((i : Nat) : Int) ∈ us → (∀ u, memS x u ↔ (0 ≤ u ∧ u < ((i + 1 : Nat) : Int)) ∧ u ∈ us) := fun hu u => by
        rw [mx u]
        constructor
        · rintro ⟨h, hm⟩; exact ⟨by omega, hm⟩
        · rintro ⟨h, hm⟩
          refine ⟨⟨h.1, ?_⟩, hm⟩
          rcases Int.lt_or_le u i with z | z
          · exact z
          · have : u = (i : Int) := by omega
            subst this; exact absurd hm hu
      rw [show (0 : Int) + (i : Int) = i from by omega]
      obtain ⟨f, hf⟩ : ∃ f : Int, f = ((i : Nat) : Int) := ⟨_, rfl⟩
      rw [← hf] at ad yes no ⊢
      walk_at "n"
      refine tifj_ ?_
      walk_at "n"
      refine on_in ?_
      rw [in_ints]
      refine brD (fun hu => ?_) (fun hu => ?_)
      · obtain ⟨y1, y2, y3⟩ := yes hu
        walk_at "n"
        rcases snoc_cases x with e | ⟨y, t, e⟩
        · subst e
          rw [addS_nil] at y1 y2 y3
          refine tifj_ ?_
          walk_at "n"
          refine ⟨⟨(lay_rats (k := 0) _).sh, (lay_rats (k := 0) []).sh⟩, brF rfl ?_⟩
          walk_at "n"
          refine ⟨by decide, ?_⟩
          walk_at "n"
          exact .inl ⟨_, _, rfl, rfl, y1, y2, y3⟩
        · subst e
          rw [List.map_append]
          refine tifj_ ?_
          walk_at "n"
          refine ⟨⟨?_, (lay_rats (k := 0) []).sh⟩, brT ?_ ?_⟩
          · rw [← List.map_append]; exact (lay_rats (k := 0) _).sh
          · rw [eqv_nil]; cases y.map ratD <;> rfl
          walk_at "n"
          refine ix_ok (ixD_last _ _) ?_
          walk_at "n"
          refine brD (fun h1 => ?_) (fun h1 => ?_)
          · rw [addS_yes y h1] at y1 y2 y3
            walk_at "n"
            refine ix_ok (ixD_last _ _) ?_
            walk_at "n"
            refine put_last (by simp) ?_
            walk_at "n"
            exact .inl ⟨_, _, rfl, by rw [List.map_append, List.map_cons, List.map_nil, List.map_cons, List.map_nil]; exact congrArg (fun z => [Cell.lst z]) (set_last _ _ _), y1, y2, y3⟩
          · rw [addS_no y h1] at y1 y2 y3
            walk_at "n"
            refine ⟨by simp only [List.length_append, List.length_map] at *; exact Nat.lt_of_le_of_lt (show _ ≤ 1001 by omega) (by decide), ?_⟩
            walk_at "n"
            exact .inl ⟨_, _, rfl, by rw [snocD_eq, List.map_append, List.map_append]; rfl, y1, y2, y3⟩
      · walk_at "n"
        exact .inl ⟨x, _, rfl, rfl, nx.mono (Int.le_refl _) (by omega), no hu, by omega⟩
    · rintro _ _ ⟨x, o1, rfl, rfl, nx, mx, hl⟩
      rw [rngD_len] at nx mx hl
      rw [show ((g.toNat : Nat) : Int) = g from by omega] at nx mx
      walk_at "n"
      refine lcb_map (spF g) (by rw [List.length_map]; exact Nat.le_trans (show _ ≤ 1000 by omega) (by decide)) (fun d hd k hk => ?_) ?_
      · obtain ⟨s, hs, rfl⟩ := List.mem_map.mp hd
        walk_at "n"
        refine ⟨_, _, rfl, by omega, lt_up (m := 100) (by omega) (by decide), ?_⟩
        refine ⟨_, _, rfl, by omega, lt_up (m := 100) (by omega) (by decide), ?_⟩
        walk_at "n"
        exact hk
      rw [sp_F]
      walk_at "n"
      exact q _ (hR x ⟨nx, mx⟩ hl) _
/-! ### _law_units -/
def spec_unitsL (xs ds : List PyData) (R : PyData → List PyData → Prop) : Prop := ∃ (a b g : Int), xs = [.int a, .int b] ∧ ds = [.int g] ∧ BagOk a b ∧ 1 ≤ g ∧ g ≤ 1000 ∧
  ∀ (us : List Int) (a' b' : Int), us.Pairwise (· < ·) → (∀ u ∈ us, 0 ≤ u ∧ u < g) → us.length ≤ g.toNat → BagOk a' b' → R (.list (us.map PyData.int)) [.int a', .int b']
theorem len_unitsL {xs ds : List PyData} {R : PyData → List PyData → Prop} (h : spec_unitsL xs ds R) : (PV.cel 0 :: dA ds).length = 2 := by
  obtain ⟨_, _, _, _, rfl, _⟩ := h; rfl
theorem ok_u_law_units (T : Top K w mg a_u_law_bag d_u_law_bag a_is_less d_is_less a_is_integer d_is_integer a_common d_common a_is_ratio d_is_ratio a_is_span d_is_span a_is_cuts d_is_cuts a_u_law_take d_u_law_take a_u_law_drawn_grain d_u_law_drawn_grain a_u_law_part d_u_law_part a_u_law_lowest d_u_law_lowest a_u_law_form d_u_law_form a_u_law_units d_u_law_units a_u_law_odd d_u_law_odd a_u_law_end d_u_law_end a_u_law_changed d_u_law_changed a_u_law_is_ratio d_u_law_is_ratio a_u_law_is_span d_u_law_is_span a_u_law_is_set d_u_law_is_set a_law d_law) (G_u_law_take : FnOkG P w K mg base 1 a_u_law_take d_u_law_take ["bag", "size"] (upF K (mutF spec_take))) :
    FnOkG P w K mg base 2 a_u_law_units d_u_law_units ["bag", "grain"] (upF K (mutF spec_unitsL)) := by
  refine okP (k := 1) T.F_u_law_units sc_u_law_units (n := 6) rfl ?len (fun cdv A outer s H E hr hgs => (wss_consB (ws_par3 (i := 2) (j := 3) (l := 4) rfl sc_u_law_units.nd rfl rfl rfl (by decide) (by decide) (by decide) rfl rfl rfl (wa_cons (w_cell (wn_list wa_nil)) (wa_cons (w_eq hr (w_callM G_u_law_take hr hgs (by rfl) T.g_u_law_take T.F_u_law_take.kp T.b_u_law_take (wa_cons (w_var 0) (wa_cons w_int wa_nil))) w_int) (wa_cons (w_add w_int (w_callM G_u_law_take hr hgs (by rfl) T.g_u_law_take T.F_u_law_take.kp T.b_u_law_take (wa_cons (w_var 0) (wa_cons w_int wa_nil)))) wa_nil))) (by rfl))
      (wss_consB (ws_for PassesOwn.never rfl (wi_range1 (by rfl) T.m_range (wa_cons (w_var 1) wa_nil)) (wg_name (i := 5) sc_u_law_units.nd rfl (.inl rfl)) (wss_consB (ws_ifJ (wt_eq hr (w_callM G_u_law_take hr hgs (by rfl) T.g_u_law_take T.F_u_law_take.kp T.b_u_law_take (wa_cons (w_var 0) (wa_cons (w_var 4) wa_nil))) w_int) (wss_one (ws_set (i := 3) sc_u_law_units.nd rfl (.inl rfl) (we_not (w_var 3)))) wss_nil)
      (wss_one (ws_ifJ (w_val (w_var 3)) (wss_one (ws_expr (w_append (i := 2) (w_var 5) (fun t h => pe_bm PySem.F.plainAttrs_list PySem.F.slot_list_append PySem.F.type_list_append mt_append (pv 2) (pa_cons h pa_nil))))) wss_nil))))
      (wss_one (ws_ret (w_fz (w_var 2))))))) ?body
  case len =>
    rintro args S R ⟨xs, ds, R0, rfl, rfl, h, q⟩
    exact len_unitsL h
  case body =>
    rintro args S R ⟨xs, ds, R0, rfl, rfl, h, q⟩
    obtain ⟨a, b, g, rfl, rfl, ok, g1, g2, hR⟩ := h
    walk_at "n"
    refine ⟨a, b, 2, rfl, rfl, ok, by decide, by decide, fun y a1 b1 y0 y1 ok1 => ?_⟩
    walk_at "n"
    refine ⟨a1, b1, 4, rfl, rfl, ok1, by decide, by decide, fun z a2 b2 z0 z1 ok2 => ?_⟩
    walk_at "n"
    refine ⟨by omega, fun i ρ S => ∃ (a b : Int) (c : Bool) (us : List Int) (o : Option PV), BagOk a b ∧ ρ = [some (.cel 0), some (.d (.int g)), some (.cel 1), some (.d (.bool c)), some (.d (.int (1 + z))), o] ∧ S = [.lst [.int a, .int b], .lst (us.map PyData.int)] ∧ us.Pairwise (· < ·) ∧ (∀ u ∈ us, 0 ≤ u ∧ u < i) ∧ us.length ≤ i, ⟨a2, b2, _, [], _, ok2, rfl, rfl, List.Pairwise.nil, fun u hu => (by cases hu), Nat.le_refl _⟩, ?_, ?_⟩
    · rintro i d _ _ hd ⟨a, b, c, us, o, ok, rfl, rfl, asc, hus, hl⟩
      obtain ⟨rfl, hi⟩ := rngD_at hd
      walk_at "n"
      refine j_ifA (fun ρ' S' => ∃ (a b : Int) (c : Bool), BagOk a b ∧ ρ' = [some (.cel 0), some (.d (.int g)), some (.cel 1), some (.d (.bool c)), some (.d (.int (1 + z))), some (.d (.int (0 + (i : Nat))))] ∧ S' = [.lst [.int a, .int b], .lst (us.map PyData.int)]) ?_ ?_
      · intro E' hE
        walk_at "n"
        refine ⟨a, b, 1 + z, rfl, rfl, ok, by omega, logP (m := 40) (by omega), fun w a1 b1 w0 w1 ok1 => ?_⟩
        walk_at "n"
        refine brD (fun _ => ?_) (fun _ => ?_)
        · walk_at "n"
          exact hE _ _ ⟨a1, b1, _, ok1, rfl, rfl⟩
        · walk_at "n"
          exact hE _ _ ⟨a1, b1, _, ok1, rfl, rfl⟩
      · rintro _ _ ⟨a, b, c, ok, rfl, rfl⟩
        walk_at "n"
        refine tifj_ ?_
        cases c with
        | true =>
          walk_at "n"
          refine ⟨by rw [List.length_map]; exact Nat.lt_of_le_of_lt (show _ ≤ 1000 by omega) (by decide), ?_⟩
          walk_at "n"
          refine .inl ⟨a, b, _, us ++ [0 + (i : Int)], _, ok, rfl, by rw [List.map_append, snocD_eq]; rfl, ?_, fun u hu => ?_, by rw [List.length_append]; simp; omega⟩
          · rw [List.pairwise_append]
            refine ⟨asc, by simp, fun p hp q hq => ?_⟩
            rw [List.mem_singleton] at hq
            have := hus p hp
            omega
          · rcases List.mem_append.mp hu with hu | hu
            · have := hus u hu; omega
            · rw [List.mem_singleton] at hu; omega
        | false =>
          walk_at "n"
          exact .inl ⟨a, b, _, us, _, ok, rfl, rfl, asc, fun u hu => by have := hus u hu; omega, by omega⟩
    · rintro _ _ ⟨a, b, c, us, o, ok, rfl, rfl, asc, hus, hl⟩
      rw [rngD_len] at hus hl
      walk_at "n"
      exact q _ _ (hR us _ _ asc (fun u hu => by have := hus u hu; omega) (by omega) ok) _
/-! ### _law_odd -/
def oddP (d : PyData) : Prop := d ∈ [.none, .bool true, .bool false, .int 0, .int 1, .int (-1), .str "", .str "1/2", .str "a", .tuple [], .list [], .tuple [.int 1], .list [.int 1, .int 2], .tuple [.int 1, .int 2, .int 3], .tuple [.tuple [.int 1, .int 2], .int 3], .list [.tuple [.int 0, .int 1]]]
theorem ok_u_law_odd (T : Top K w mg a_u_law_bag d_u_law_bag a_is_less d_is_less a_is_integer d_is_integer a_common d_common a_is_ratio d_is_ratio a_is_span d_is_span a_is_cuts d_is_cuts a_u_law_take d_u_law_take a_u_law_drawn_grain d_u_law_drawn_grain a_u_law_part d_u_law_part a_u_law_lowest d_u_law_lowest a_u_law_form d_u_law_form a_u_law_units d_u_law_units a_u_law_odd d_u_law_odd a_u_law_end d_u_law_end a_u_law_changed d_u_law_changed a_u_law_is_ratio d_u_law_is_ratio a_u_law_is_span d_u_law_is_span a_u_law_is_set d_u_law_is_set a_law d_law) (G_u_law_take : FnOkG P w K mg base 1 a_u_law_take d_u_law_take ["bag", "size"] (upF K (mutF spec_take))) :
    FnOkG P w K mg base 2 a_u_law_odd d_u_law_odd ["bag"] (upF K (mutF (spec_draw oddP))) := by
  refine okP (k := 1) T.F_u_law_odd sc_u_law_odd (n := 2) rfl ?len (fun cdv A outer s H E hr hgs => (wss_cons (ws_set (i := 1) sc_u_law_odd.nd rfl (.inl rfl) (w_list (wa_cons w_non (wa_cons w_bl (wa_cons w_bl (wa_cons w_int (wa_cons w_int (wa_cons (w_neg w_int) (wa_cons w_str (wa_cons w_str (wa_cons w_str (wa_cons (w_tup wa_nil) (wa_cons (w_list wa_nil) (wa_cons (w_tup (wa_cons w_int wa_nil)) (wa_cons (w_list (wa_cons w_int (wa_cons w_int wa_nil))) (wa_cons (w_tup (wa_cons w_int (wa_cons w_int (wa_cons w_int wa_nil)))) (wa_cons (w_tup (wa_cons (w_tup (wa_cons w_int (wa_cons w_int wa_nil))) (wa_cons w_int wa_nil))) (wa_cons (w_list (wa_cons (w_tup (wa_cons w_int (wa_cons w_int wa_nil))) wa_nil)) wa_nil))))))))))))))))))
      (wss_one (ws_ret (w_ixJ (w_var 1) (w_callM G_u_law_take hr hgs (by rfl) T.g_u_law_take T.F_u_law_take.kp T.b_u_law_take (wa_cons (w_var 0) (wa_cons w_int wa_nil))) (fun _ _ => rfl)))))) ?body
  case len =>
    rintro args S R ⟨xs, ds, R0, rfl, rfl, h, q⟩
    exact len_draw h
  case body =>
    rintro args S R ⟨xs, ds, R0, rfl, rfl, h, q⟩
    obtain ⟨a, b, rfl, rfl, ok, hR⟩ := h
    refine ⟨a, b, 16, rfl, rfl, ok, by decide, by decide, fun r a1 b1 r0 r1 ok1 => ?_⟩
    obtain ⟨d, e, hd⟩ := ix_len (xs := [.none, .bool true, .bool false, .int 0, .int 1, .int (-1), .str "", .str "1/2", .str "a", .tuple [], .list [], .tuple [.int 1], .list [.int 1, .int 2], .tuple [.int 1, .int 2, .int 3], .tuple [.tuple [.int 1, .int 2], .int 3], .list [.tuple [.int 0, .int 1]]]) r0 r1
    exact ix_ok e (q _ _ (hR _ _ _ hd ok1) _)
/-! ### _law_end -/
structure EndOk (d : PyData) : Prop where
  small : SmallR 3800 d
  shw : Shw 5000 2 d
theorem endInt {i : Int} (h : i.natAbs < 2 ^ 200) : Shw 2000 0 (.int i) := shw_int (m := 200) h (by decide)
theorem endTup {x y : Int} (hx : x.natAbs < 2 ^ 200) (hy : y.natAbs < 2 ^ 200) : EndOk (.tuple [.int x, .int y]) :=
  ⟨⟨lt_up hx (by decide), lt_up hy (by decide)⟩, (shw_tup (n := 0) (b := 2000) (m := 2) (fun z hz => by
    simp only [List.mem_cons, List.not_mem_nil, or_false] at hz
    rcases hz with rfl | rfl
    · exact endInt hx
    · exact endInt hy) (Nat.le_refl _)).up (by decide) (by decide)⟩
def endsD (a b : Int) : List PyData := [.tuple [.int (a * 2), .int (b * 2)], .tuple [.int (-a), .int b], .tuple [.int (a + 1), .int b], .list [.int a, .int b], .tuple [.int a], .int a, .none,
  .tuple [.int 0, .int 1], .tuple [.int 1, .int 1], .tuple [.int 2, .int 1], .tuple [.int (-1), .int 3], .tuple [.int 1, .int 0], .tuple [.bool true, .int 1], .tuple [.int (10 ^ 50), .int (10 ^ 50 + 1)], .tuple [.int (10 ^ 50 + 1), .int (10 ^ 50)]]
theorem ends_ok {a b : Int} (ha : a.natAbs ≤ 10 ^ 9) (hb : b.natAbs ≤ 10 ^ 9) : ∀ d ∈ endsD a b, EndOk d := by
  have k1 : ∀ z : Int, z.natAbs ≤ 10 ^ 10 → z.natAbs < 2 ^ 200 := fun z h => Nat.lt_of_le_of_lt h (by decide)
  intro d hd
  unfold endsD at hd
  simp only [List.mem_cons, List.not_mem_nil, or_false] at hd
  rcases hd with rfl | rfl | rfl | rfl | rfl | rfl | rfl | rfl | rfl | rfl | rfl | rfl | rfl | rfl | rfl
  · exact endTup (k1 _ (by omega)) (k1 _ (by omega))
  · exact endTup (k1 _ (by omega)) (k1 _ (by omega))
  · exact endTup (k1 _ (by omega)) (k1 _ (by omega))
  · exact ⟨trivial, (shw_list (n := 0) (b := 2000) (m := 2) (fun z hz => by
      simp only [List.mem_cons, List.not_mem_nil, or_false] at hz
      rcases hz with rfl | rfl
      · exact endInt (k1 _ (by omega))
      · exact endInt (k1 _ (by omega))) (Nat.le_refl _)).up (by decide) (by decide)⟩
  · exact ⟨trivial, (shw_tup (n := 0) (b := 2000) (m := 1) (fun z hz => by
      simp only [List.mem_cons, List.not_mem_nil, or_false] at hz
      subst hz
      exact endInt (k1 _ (by omega))) (Nat.le_refl _)).up (by decide) (by decide)⟩
  · exact ⟨trivial, (endInt (k1 _ (by omega))).up (by decide) (by decide)⟩
  · exact ⟨trivial, shw_none⟩
  · exact endTup (by decide) (by decide)
  · exact endTup (by decide) (by decide)
  · exact endTup (by decide) (by decide)
  · exact endTup (by decide) (by decide)
  · exact endTup (by decide) (by decide)
  · exact ⟨trivial, (shw_tup (n := 0) (b := 2000) (m := 2) (fun z hz => by
      simp only [List.mem_cons, List.not_mem_nil, or_false] at hz
      rcases hz with rfl | rfl
      · exact shw_bool true
      · exact endInt (by decide)) (Nat.le_refl _)).up (by decide) (by decide)⟩
  · exact endTup (by decide) (by decide)
  · exact endTup (by decide) (by decide)
def spec_end (xs ds : List PyData) (R : PyData → List PyData → Prop) : Prop := ∃ a b x y : Int, xs = [.int a, .int b] ∧ ds = [.tuple [.int x, .int y]] ∧ BagOk a b ∧ x.natAbs ≤ 10 ^ 9 ∧ y.natAbs ≤ 10 ^ 9 ∧
  ∀ (d : PyData) (a' b' : Int), EndOk d → BagOk a' b' → R d [.int a', .int b']
theorem len_end {xs ds : List PyData} {R : PyData → List PyData → Prop} (h : spec_end xs ds R) : (PV.cel 0 :: dA ds).length = 2 := by
  obtain ⟨_, _, _, _, _, rfl, _⟩ := h; rfl
theorem ok_u_law_end (T : Top K w mg a_u_law_bag d_u_law_bag a_is_less d_is_less a_is_integer d_is_integer a_common d_common a_is_ratio d_is_ratio a_is_span d_is_span a_is_cuts d_is_cuts a_u_law_take d_u_law_take a_u_law_drawn_grain d_u_law_drawn_grain a_u_law_part d_u_law_part a_u_law_lowest d_u_law_lowest a_u_law_form d_u_law_form a_u_law_units d_u_law_units a_u_law_odd d_u_law_odd a_u_law_end d_u_law_end a_u_law_changed d_u_law_changed a_u_law_is_ratio d_u_law_is_ratio a_u_law_is_span d_u_law_is_span a_u_law_is_set d_u_law_is_set a_law d_law) (G_u_law_take : FnOkG P w K mg base 1 a_u_law_take d_u_law_take ["bag", "size"] (upF K (mutF spec_take))) :
    FnOkG P w K mg base 2 a_u_law_end d_u_law_end ["bag", "end"] (upF K (mutF spec_end)) := by
  refine okP (k := 1) T.F_u_law_end sc_u_law_end (n := 3) rfl ?len (fun cdv A outer s H E hr hgs => (wss_consB (ws_setN (i := 2) sc_u_law_end.nd rfl (.inl rfl) (wn_list (wa_cons (w_tup (wa_cons (w_mul (w_ix (w_var 1) w_int (fun _ _ => rfl)) w_int) (wa_cons (w_mul (w_ix (w_var 1) w_int (fun _ _ => rfl)) w_int) wa_nil))) (wa_cons (w_tup (wa_cons (w_neg (w_ix (w_var 1) w_int (fun _ _ => rfl))) (wa_cons (w_ix (w_var 1) w_int (fun _ _ => rfl)) wa_nil))) (wa_cons (w_tup (wa_cons (w_add (w_ix (w_var 1) w_int (fun _ _ => rfl)) w_int) (wa_cons (w_ix (w_var 1) w_int (fun _ _ => rfl)) wa_nil))) (wa_cons (w_ne (wn_listOf (w_var 1) (fun t h => pe_callTy call_list_of (by rfl) T.m_list (by decide +kernel) (pa_cons h pa_nil)))) (wa_cons (w_tup (wa_cons (w_ix (w_var 1) w_int (fun _ _ => rfl)) wa_nil)) (wa_cons (w_ix (w_var 1) w_int (fun _ _ => rfl)) (wa_cons w_non wa_nil)))))))))
      (wss_consB (ws_setN (i := 2) sc_u_law_end.nd rfl (.inl rfl) (wn_cat (w_var 2) (w_list (wa_cons (w_tup (wa_cons w_int (wa_cons w_int wa_nil))) (wa_cons (w_tup (wa_cons w_int (wa_cons w_int wa_nil))) (wa_cons (w_tup (wa_cons w_int (wa_cons w_int wa_nil))) (wa_cons (w_tup (wa_cons (w_neg w_int) (wa_cons w_int wa_nil))) (wa_cons (w_tup (wa_cons w_int (wa_cons w_int wa_nil))) (wa_cons (w_tup (wa_cons w_bl (wa_cons w_int wa_nil))) (wa_cons (w_tup (wa_cons (w_pow w_int w_int) (wa_cons (w_add (w_pow w_int w_int) w_int) wa_nil))) wa_nil))))))))))
      (wss_consB (ws_expr (w_append (i := 2) (w_tup (wa_cons (w_add (w_pow w_int w_int) w_int) (wa_cons (w_pow w_int w_int) wa_nil))) (fun t h => pe_bm PySem.F.plainAttrs_list PySem.F.slot_list_append PySem.F.type_list_append mt_append (pv 2) (pa_cons h pa_nil))))
      (wss_one (ws_ret (w_ixJ (w_var 2) (w_callM G_u_law_take hr hgs (by rfl) T.g_u_law_take T.F_u_law_take.kp T.b_u_law_take (wa_cons (w_var 0) (wa_cons w_int wa_nil))) (fun _ _ => rfl)))))))) ?body
  case len =>
    rintro args S R ⟨xs, ds, R0, rfl, rfl, h, q⟩
    exact len_end h
  case body =>
    rintro args S R ⟨xs, ds, R0, rfl, rfl, h, q⟩
    obtain ⟨a, b, x, y, rfl, rfl, ok, hx, hy, hR⟩ := h
    walk_at "n"
    refine ⟨mulP (m := 40) (n := 40) (Nat.lt_of_le_of_lt hx (by decide)) (by decide), ?_⟩
    walk_at "n"
    refine ⟨mulP (m := 40) (n := 40) (Nat.lt_of_le_of_lt hy (by decide)) (by decide), ?_⟩
    refine ⟨⟨by decide, by decide, by decide⟩, ?_⟩
    walk_at "n"
    refine ⟨⟨by decide, by decide, by decide⟩, ?_⟩
    walk_at "n"
    refine ⟨show 14 ≤ sizeLine by decide, ?_⟩
    walk_at "n"
    refine ⟨⟨by decide, by decide, by decide⟩, ?_⟩
    walk_at "n"
    refine ⟨⟨by decide, by decide, by decide⟩, ?_⟩
    walk_at "n"
    refine ⟨show 14 < sizeLine by decide, ?_⟩
    walk_at "n"
    refine ⟨a, b, 15, rfl, rfl, ok, by decide, by decide, fun r a1 b1 r0 r1 ok1 => ?_⟩
    obtain ⟨d, e, hd⟩ := ix_len (xs := endsD x y) r0 r1
    walk_at "n"
    refine ix_ok e ?_
    walk_at "n"
    exact q _ _ (hR _ _ _ (ends_ok hx hy d hd) ok1) _
/-! ### _law_changed -/
structure ChOk (d : PyData) : Prop where
  small : SmallC 3800 d
  shw : Shw 2000000 6 d
structure ElOk (d : PyData) : Prop where
  small : SmallS 3800 d
  shw : Shw 20000 4 d
theorem ch_list {xs : List PyData} (h : ∀ x ∈ xs, ElOk x) (hl : xs.length ≤ 64) : ChOk (.list xs) :=
  ⟨⟨by omega, fun x hx => (h x hx).small⟩, (shw_list (n := 4) (b := 20000) (m := 64) (fun x hx => (h x hx).shw) hl).up (by decide) (by decide)⟩
theorem ch_tup {xs : List PyData} (h : ∀ x ∈ xs, ElOk x) (hl : xs.length ≤ 64) : ChOk (.tuple xs) :=
  ⟨trivial, (shw_tup (n := 4) (b := 20000) (m := 64) (fun x hx => (h x hx).shw) hl).up (by decide) (by decide)⟩
theorem el_pair {x y : PyData} (hx : EndOk x) (hy : EndOk y) : ElOk (.tuple [x, y]) :=
  ⟨⟨hx.small, hy.small⟩, (shw_tup (n := 2) (b := 5000) (m := 2) (fun z hz => by
    simp only [List.mem_cons, List.not_mem_nil, or_false] at hz
    rcases hz with rfl | rfl
    · exact hx.shw
    · exact hy.shw) (Nat.le_refl _)).up (by decide) (by decide)⟩
theorem odd_el : ∀ d, oddP d → ElOk d := by
  have i1 : ∀ {i : Int} {b : Nat}, i.natAbs ≤ 10 → 2000 ≤ b → Shw b 0 (.int i) := fun h hb => (endInt (Nat.lt_of_le_of_lt h (by decide))).up hb (Nat.le_refl _)
  intro d hd
  unfold oddP at hd
  simp only [List.mem_cons, List.not_mem_nil, or_false] at hd
  rcases hd with rfl | rfl | rfl | rfl | rfl | rfl | rfl | rfl | rfl | rfl | rfl | rfl | rfl | rfl | rfl | rfl
  · exact ⟨trivial, shw_none⟩
  · exact ⟨trivial, shw_bool true⟩
  · exact ⟨trivial, shw_bool false⟩
  · exact ⟨trivial, (endInt (by decide)).up (by decide) (by decide)⟩
  · exact ⟨trivial, (endInt (by decide)).up (by decide) (by decide)⟩
  · exact ⟨trivial, (endInt (by decide)).up (by decide) (by decide)⟩
  · exact ⟨trivial, shw_str _ (by decide +kernel)⟩
  · exact ⟨trivial, shw_str _ (by decide +kernel)⟩
  · exact ⟨trivial, shw_str _ (by decide +kernel)⟩
  · exact ⟨trivial, (shw_tup (n := 0) (b := 2000) (m := 0) (fun z hz => by cases hz) (Nat.le_refl _)).up (by decide) (by decide)⟩
  · exact ⟨trivial, (shw_list (n := 0) (b := 2000) (m := 0) (fun z hz => by cases hz) (Nat.le_refl _)).up (by decide) (by decide)⟩
  · exact ⟨trivial, (shw_tup (n := 0) (b := 2000) (m := 1) (fun z hz => by
      simp only [List.mem_cons, List.not_mem_nil, or_false] at hz
      subst hz; exact endInt (by decide)) (Nat.le_refl _)).up (by decide) (by decide)⟩
  · exact ⟨trivial, (shw_list (n := 0) (b := 2000) (m := 2) (fun z hz => by
      simp only [List.mem_cons, List.not_mem_nil, or_false] at hz
      rcases hz with rfl | rfl <;> exact endInt (by decide)) (Nat.le_refl _)).up (by decide) (by decide)⟩
  · exact ⟨trivial, (shw_tup (n := 0) (b := 2000) (m := 3) (fun z hz => by
      simp only [List.mem_cons, List.not_mem_nil, or_false] at hz
      rcases hz with rfl | rfl | rfl <;> exact endInt (by decide)) (Nat.le_refl _)).up (by decide) (by decide)⟩
  · exact el_pair (endTup (x := 1) (y := 2) (by decide) (by decide)) ⟨trivial, (endInt (i := 3) (by decide)).up (by decide) (by decide)⟩
  · exact ⟨trivial, (shw_list (n := 2) (b := 5000) (m := 1) (fun z hz => by
      simp only [List.mem_cons, List.not_mem_nil, or_false] at hz
      subst hz; exact (endTup (x := 0) (y := 1) (by decide) (by decide)).shw) (Nat.le_refl _)).up (by decide) (by decide)⟩
theorem odd_ch : ∀ d, oddP d → ChOk d := by
  intro d hd
  have h := odd_el d hd
  refine ⟨?_, h.shw.up (by decide) (by decide)⟩
  unfold oddP at hd
  simp only [List.mem_cons, List.not_mem_nil, or_false] at hd
  rcases hd with rfl | rfl | rfl | rfl | rfl | rfl | rfl | rfl | rfl | rfl | rfl | rfl | rfl | rfl | rfl | rfl
  · exact trivial
  · exact trivial
  · exact trivial
  · exact trivial
  · exact trivial
  · exact trivial
  · exact trivial
  · exact trivial
  · exact trivial
  · exact trivial
  · exact ⟨by decide, fun x hx => by cases hx⟩
  · exact trivial
  · refine ⟨by decide, fun x hx => ?_⟩
    simp only [List.mem_cons, List.not_mem_nil, or_false] at hx
    rcases hx with rfl | rfl <;> exact trivial
  · exact trivial
  · exact trivial
  · refine ⟨by decide, fun x hx => ?_⟩
    simp only [List.mem_cons, List.not_mem_nil, or_false] at hx
    subst hx
    exact ⟨trivial, trivial⟩
theorem end_low {t g : Int} (h0 : 0 ≤ t) (h1 : t ≤ g) (g0 : 0 < g) (g1 : g ≤ 1000) : ∃ a b : Int, lowD t g = .tuple [.int a, .int b] ∧ a.natAbs ≤ 1000 ∧ b.natAbs ≤ 1000 := by
  obtain ⟨n, m, e, _, _, b1, b2⟩ := low_is (t := t) (Int.ne_of_gt g0)
  exact ⟨n, m, e, by omega, by omega⟩
def spec_changed (xs ds : List PyData) (R : PyData → List PyData → Prop) : Prop := ∃ (a b g : Int) (x : List (Int × Int)), xs = [.int a, .int b] ∧ ds = [.list (x.map (spanD g))] ∧ BagOk a b ∧ 0 < g ∧ g ≤ 1000 ∧ (∀ s ∈ x, 0 ≤ s.1 ∧ s.1 ≤ g ∧ 0 ≤ s.2 ∧ s.2 ≤ g) ∧ x.length ≤ 40 ∧
  ∀ (d : PyData) (a' b' : Int), ChOk d → BagOk a' b' → R d [.int a', .int b']
theorem len_changed {xs ds : List PyData} {R : PyData → List PyData → Prop} (h : spec_changed xs ds R) : (PV.cel 0 :: dA ds).length = 2 := by
  obtain ⟨_, _, _, _, _, rfl, _⟩ := h; rfl
def othersD (low high d1 d2 : PyData) : List PyData := [.tuple [d1, high], .tuple [low, d2], .tuple [high, low], .list [low, high], .tuple [low, high, high], .tuple [low]]
theorem others_ok {low high d1 d2 : PyData} (k1 : EndOk low) (k2 : EndOk high) (k3 : EndOk d1) (k4 : EndOk d2) : ∀ y ∈ othersD low high d1 d2, ElOk y := by
  intro y hy
  unfold othersD at hy
  simp only [List.mem_cons, List.not_mem_nil, or_false] at hy
  rcases hy with rfl | rfl | rfl | rfl | rfl | rfl
  · exact el_pair k3 k2
  · exact el_pair k1 k4
  · exact el_pair k2 k1
  · exact ⟨trivial, (shw_list (n := 2) (b := 5000) (m := 2) (fun z hz => by
      simp only [List.mem_cons, List.not_mem_nil, or_false] at hz
      rcases hz with rfl | rfl
      · exact k1.shw
      · exact k2.shw) (Nat.le_refl _)).up (by decide) (by decide)⟩
  · exact ⟨trivial, (shw_tup (n := 2) (b := 5000) (m := 3) (fun z hz => by
      simp only [List.mem_cons, List.not_mem_nil, or_false] at hz
      rcases hz with rfl | rfl | rfl
      · exact k1.shw
      · exact k2.shw
      · exact k2.shw) (Nat.le_refl _)).up (by decide) (by decide)⟩
  · exact ⟨trivial, (shw_tup (n := 2) (b := 5000) (m := 1) (fun z hz => by
      simp only [List.mem_cons, List.not_mem_nil, or_false] at hz
      subst hz
      exact k1.shw) (Nat.le_refl _)).up (by decide) (by decide)⟩
theorem ok_u_law_changed (T : Top K w mg a_u_law_bag d_u_law_bag a_is_less d_is_less a_is_integer d_is_integer a_common d_common a_is_ratio d_is_ratio a_is_span d_is_span a_is_cuts d_is_cuts a_u_law_take d_u_law_take a_u_law_drawn_grain d_u_law_drawn_grain a_u_law_part d_u_law_part a_u_law_lowest d_u_law_lowest a_u_law_form d_u_law_form a_u_law_units d_u_law_units a_u_law_odd d_u_law_odd a_u_law_end d_u_law_end a_u_law_changed d_u_law_changed a_u_law_is_ratio d_u_law_is_ratio a_u_law_is_span d_u_law_is_span a_u_law_is_set d_u_law_is_set a_law d_law) (G_u_law_odd : FnOkG P w K mg base 2 a_u_law_odd d_u_law_odd ["bag"] (upF K (mutF (spec_draw oddP)))) (G_u_law_take : FnOkG P w K mg base 1 a_u_law_take d_u_law_take ["bag", "size"] (upF K (mutF spec_take))) (G_u_law_end : FnOkG P w K mg base 2 a_u_law_end d_u_law_end ["bag", "end"] (upF K (mutF spec_end))) :
    FnOkG P w K mg base 3 a_u_law_changed d_u_law_changed ["bag", "some"] (upF K (mutF spec_changed)) := by
  refine okP (k := 2) T.F_u_law_changed sc_u_law_changed (n := 7) rfl ?len (fun cdv A outer s H E hr hgs => (wss_consB (ws_if (wt_eq hr (w_var 1) (w_list wa_nil)) (wss_one (ws_ret (w_callM G_u_law_odd hr hgs (by rfl) T.g_u_law_odd T.F_u_law_odd.kp T.b_u_law_odd (wa_cons (w_var 0) wa_nil)))) wss_nil)
      (wss_consB (ws_par (i := 2) (j := 3) rfl sc_u_law_changed.nd rfl rfl (by decide) rfl rfl (wa_cons (w_callM G_u_law_take (hr.mono (by decide)) hgs (by rfl) T.g_u_law_take T.F_u_law_take.kp T.b_u_law_take (wa_cons (w_var 0) (wa_cons (w_bi ok_len (wa_cons (w_var 1) wa_nil) (fun t h => pe_callB (call_len_seq.or call_len_str) (by rfl) T.m_len (by decide +kernel) h)) wa_nil))) (wa_cons (w_callM G_u_law_take (hr.mono (by decide)) hgs (by rfl) T.g_u_law_take T.F_u_law_take.kp T.b_u_law_take (wa_cons (w_var 0) (wa_cons w_int wa_nil))) wa_nil)) (by rfl))
      (wss_consB (ws_asg (w_ixJ (w_var 1) (w_var 2) (fun _ _ => rfl)) (wg_tup (n := 2) rfl (wgs_cons (wg_name (i := 4) sc_u_law_changed.nd rfl (.inl rfl)) (wgs_cons (wg_name (i := 5) sc_u_law_changed.nd rfl (.inl rfl)) wgs_nil))))
      (wss_consB (ws_set (i := 6) sc_u_law_changed.nd rfl (.inl rfl) (w_list (wa_cons (w_tup (wa_cons (w_callM G_u_law_end hr hgs (by rfl) T.g_u_law_end T.F_u_law_end.kp T.b_u_law_end (wa_cons (w_var 0) (wa_cons (w_var 4) wa_nil))) (wa_cons (w_var 5) wa_nil))) (wa_cons (w_tup (wa_cons (w_var 4) (wa_cons (w_callM G_u_law_end hr hgs (by rfl) T.g_u_law_end T.F_u_law_end.kp T.b_u_law_end (wa_cons (w_var 0) (wa_cons (w_var 5) wa_nil))) wa_nil))) (wa_cons (w_tup (wa_cons (w_var 5) (wa_cons (w_var 4) wa_nil))) (wa_cons (w_list (wa_cons (w_var 4) (wa_cons (w_var 5) wa_nil))) wa_nil))))))
      (wss_consB (ws_set (i := 6) sc_u_law_changed.nd rfl (.inl rfl) (w_add (w_var 6) (w_list (wa_cons (w_tup (wa_cons (w_var 4) (wa_cons (w_var 5) (wa_cons (w_var 5) wa_nil)))) (wa_cons (w_tup (wa_cons (w_var 4) wa_nil)) wa_nil)))))
      (wss_consB (ws_if (wt_lt (w_var 3) w_int) (wss_one (ws_ret (w_add (w_add (w_ne (wn_slice (w_var 1) wo_none (wo_some (w_var 2)))) (w_list (wa_cons (w_ixJ (w_var 6) (w_var 3) (fun _ _ => rfl)) wa_nil))) (w_ne (wn_slice (w_var 1) (wo_some (w_add (w_var 2) w_int)) wo_none))))) wss_nil)
      (wss_one (ws_ret (w_ixJ (w_list (wa_cons (w_bi ok_tup (wa_cons (w_var 1) wa_nil) (fun t h => pe_callTy call_tuple_of (by rfl) T.m_tuple (by decide +kernel) h)) (wa_cons (w_add (w_var 1) (w_list (wa_cons (w_ixJ (w_var 1) (w_var 2) (fun _ _ => rfl)) wa_nil))) (wa_cons (w_ne (wn_rev (w_var 1))) wa_nil)))) (w_sub (w_var 3) w_int) (fun _ _ => rfl))))))))))) ?body
  case len =>
    rintro args S R ⟨xs, ds, R0, rfl, rfl, h, q⟩
    exact len_changed h
  case body =>
    rintro args S R ⟨xs, ds, R0, rfl, rfl, h, q⟩
    obtain ⟨a, b, g, x, rfl, rfl, ok, g0, g1, hx, hl, hR⟩ := h
    have hel : ∀ y ∈ x.map (spanD g), ElOk y := fun y hy => by
      obtain ⟨s, hs, rfl⟩ := List.mem_map.mp hy
      obtain ⟨h1, h2, h3, h4⟩ := hx s hs
      obtain ⟨c, e, ec, c1, c2⟩ := end_low h1 h2 g0 g1
      obtain ⟨c', e', ec', c1', c2'⟩ := end_low h3 h4 g0 g1
      have k : ∀ z : Int, z.natAbs ≤ 1000 → z.natAbs < 2 ^ 200 := fun z h => Nat.lt_of_le_of_lt h (by decide)
      unfold spanD
      rw [ec, ec']
      exact el_pair (endTup (k _ c1) (k _ c2)) (endTup (k _ c1') (k _ c2'))
    walk_at "n"
    refine ⟨⟨(lay_spans (k := 0) g0 x).sh, (lay_rats (k := 0) []).sh⟩, ?_⟩
    rw [eqv_nil]
    cases x with
    | nil =>
      refine brT rfl ?_
      walk_at "n"
      refine ⟨a, b, rfl, rfl, ok, fun d a1 b1 hd ok1 => ?_⟩
      walk_at "n"
      exact q _ _ (hR _ _ _ (odd_ch d hd) ok1) _
    | cons s0 x0 =>
      refine brF rfl ?_
      have hxl : 0 < (s0 :: x0).length := by simp
      generalize s0 :: x0 = x at *
      walk_at "n"
      refine ⟨a, b, _, rfl, rfl, ok, by rw [List.length_map]; omega, logP (m := 40) (by rw [List.length_map]; omega), fun at_ a1 b1 p0 p1 ok1 => ?_⟩
      refine ⟨a1, b1, 9, rfl, rfl, ok1, by decide, by decide, fun w a2 b2 w0 w1 ok2 => ?_⟩
      rw [List.length_map] at p1
      obtain ⟨v, ev, hv⟩ := ix_len (xs := x.map (spanD g)) p0 (by rw [List.length_map]; omega)
      obtain ⟨s, hs, rfl⟩ := List.mem_map.mp hv
      obtain ⟨h1, h2, h3, h4⟩ := hx s hs
      obtain ⟨c, e, ec, c1, c2⟩ := end_low h1 h2 g0 g1
      obtain ⟨c', e', ec', c1', c2'⟩ := end_low h3 h4 g0 g1
      walk_at "n"
      refine ix_ok ev ?_
      rw [show spanD g s = .tuple [.tuple [.int c, .int e], .tuple [.int c', .int e']] from by unfold spanD; rw [ec, ec']]
      walk_at "n"
      have kz : ∀ z : Int, z.natAbs ≤ 1000 → z.natAbs < 2 ^ 200 := fun z h => Nat.lt_of_le_of_lt h (by decide)
      have kl : EndOk (.tuple [.int c, .int e]) := endTup (kz _ c1) (kz _ c2)
      have kh : EndOk (.tuple [.int c', .int e']) := endTup (kz _ c1') (kz _ c2')
      refine ⟨a2, b2, c, e, rfl, rfl, ok2, by omega, by omega, fun d1 a3 b3 k1 ok3 => ?_⟩
      walk_at "n"
      refine ⟨a3, b3, c', e', rfl, rfl, ok3, by omega, by omega, fun d2 a4 b4 k2 ok4 => ?_⟩
      have hot := others_ok kl kh k1 k2
      have hw : w < 6 → ∃ y, ixD (othersD (.tuple [.int c, .int e]) (.tuple [.int c', .int e']) d1 d2) w = some y ∧ ElOk y := fun h => by
        obtain ⟨y, ey, hy⟩ := ix_len (xs := othersD (.tuple [.int c, .int e]) (.tuple [.int c', .int e']) d1 d2) w0 (show w < (6 : Nat) by omega)
        exact ⟨y, ey, hot y hy⟩
      walk_at "n"
      refine ⟨show 6 ≤ sizeLine by decide, ?_⟩
      walk_at "n"
      refine brD (fun h6 => ?_) (fun h6 => ?_)
      · obtain ⟨y, ey, hy⟩ := hw h6
        walk_at "n"
        refine ix_ok ey ?_
        walk_at "n"
        have lx : (x.map (spanD g)).length = x.length := List.length_map ..
        rw [cut_to p0 (by rw [lx]; omega)]
        have lt : ((x.map (spanD g)).take at_.toNat).length ≤ 40 := by rw [List.length_take, lx]; omega
        have ld : ((x.map (spanD g)).drop (at_ + 1).toNat).length ≤ 40 := by rw [List.length_drop, lx]; omega
        have l1 : ((x.map (spanD g)).take at_.toNat).length + [y].length ≤ 41 := by simp only [List.length_cons, List.length_nil]; omega
        refine ⟨Nat.le_trans l1 (by decide), ?_⟩
        walk_at "n"
        rw [cut_from (by omega) (by rw [lx]; omega)]
        have l2 : ((x.map (spanD g)).take at_.toNat ++ [y]).length + ((x.map (spanD g)).drop (at_ + 1).toNat).length ≤ 81 := by rw [List.length_append]; omega
        refine ⟨Nat.le_trans l2 (by decide), ?_⟩
        have l3 : ((x.map (spanD g)).take at_.toNat ++ [y] ++ (x.map (spanD g)).drop (at_ + 1).toNat).length ≤ 64 := by
          rw [List.length_append, List.length_append, List.length_take, List.length_drop, lx]; simp only [List.length_cons, List.length_nil]; omega
        have ck : ChOk (.list ((x.map (spanD g)).take at_.toNat ++ [y] ++ (x.map (spanD g)).drop (at_ + 1).toNat)) := ch_list (fun z hz => by
          rcases List.mem_append.mp hz with hz | hz
          · rcases List.mem_append.mp hz with hz | hz
            · exact hel z (List.mem_of_mem_take hz)
            · rw [List.mem_singleton] at hz; subst hz; exact hy
          · exact hel z (List.mem_of_mem_drop hz)) l3
        walk_at "n"
        exact q _ _ (hR _ _ _ ck ok4) _
      · walk_at "n"
        refine ix_ok ev ?_
        have lx : (x.map (spanD g)).length = x.length := List.length_map ..
        have hes : ElOk (spanD g s) := hel _ hv
        have k1' : ChOk (.tuple (x.map (spanD g))) := ch_tup hel (by rw [lx]; omega)
        have k2' : ChOk (.list (x.map (spanD g) ++ [spanD g s])) := ch_list (fun z hz => by
          rcases List.mem_append.mp hz with hz | hz
          · exact hel z hz
          · rw [List.mem_singleton] at hz; subst hz; exact hes) (by rw [List.length_append, lx]; simp only [List.length_cons, List.length_nil]; omega)
        have k3' : ChOk (.list (x.map (spanD g)).reverse) := ch_list (fun z hz => hel z (List.mem_reverse.mp hz)) (by rw [List.length_reverse, lx]; omega)
        have hx3 : ∃ d, ixD [.tuple (x.map (spanD g)), .list (x.map (spanD g) ++ [spanD g s]), .list (x.map (spanD g)).reverse] (w - 6) = some d ∧ ChOk d := by
          have : w = 6 ∨ w = 7 ∨ w = 8 := by omega
          rcases this with rfl | rfl | rfl
          · exact ⟨_, rfl, k1'⟩
          · exact ⟨_, rfl, k2'⟩
          · exact ⟨_, rfl, k3'⟩
        obtain ⟨dd, ed, hd⟩ := hx3
        walk_at "n"
        refine ⟨by rw [lx]; exact Nat.le_trans (show _ ≤ 41 by simp only [List.length_cons, List.length_nil]; omega) (by decide), ?_⟩
        walk_at "n"
        refine ix_ok ed ?_
        walk_at "n"
        exact q _ _ (hR _ _ _ hd ok4) _
/-! ### _law_is_ratio -/

theorem ok_u_law_is_ratio (T : Top K w mg a_u_law_bag d_u_law_bag a_is_less d_is_less a_is_integer d_is_integer a_common d_common a_is_ratio d_is_ratio a_is_span d_is_span a_is_cuts d_is_cuts a_u_law_take d_u_law_take a_u_law_drawn_grain d_u_law_drawn_grain a_u_law_part d_u_law_part a_u_law_lowest d_u_law_lowest a_u_law_form d_u_law_form a_u_law_units d_u_law_units a_u_law_odd d_u_law_odd a_u_law_end d_u_law_end a_u_law_changed d_u_law_changed a_u_law_is_ratio d_u_law_is_ratio a_u_law_is_span d_u_law_is_span a_u_law_is_set d_u_law_is_set a_law d_law) (G_u_law_part : FnOkG P w K mg base 1 a_u_law_part d_u_law_part ["one", "other"] (upF K (pur spec_gcd))) :
    FnOkG P w K mg base 2 a_u_law_is_ratio d_u_law_is_ratio ["thing"] (upF K (pur spec_is_ratio)) := by
  refine okP (k := 1) T.F_u_law_is_ratio sc_u_law_is_ratio (n := 2) rfl ?len (fun cdv A outer s H E hr hgs => (wss_cons (ws_if (WW.wt (ww_or (wt_not (w_val (w_isi .tuple (by rfl) T.m_isinstance (by rfl) T.m_tuple (by decide +kernel) (w_var 0) (fun t h => pe_callB call_isi (by rfl) T.m_isinstance (by decide +kernel) (pa_cons h (pa_cons (pe_bltn (v := .ty "tuple") (by rfl) T.m_tuple (by decide +kernel) rfl) pa_nil)))))) (ww_or1 (wt_ne hr (w_bi ok_len (wa_cons (w_var 0) wa_nil) (fun t h => pe_callB (call_len_seq.or call_len_str) (by rfl) T.m_len (by decide +kernel) h)) w_int)))) (wss_one (ws_ret w_bl)) wss_nil)
      (wss_cons (ws_if (wt_not (w_val (w_bi ok_all (wa_cons (w_ne (wn_lc (own := [("part", 1)]) rfl sc_u_law_is_ratio.nd (wi_tup (w_var 0)) (blkOk_by (N := ["thing", "part"]) (sc := defScope s_u_law_is_ratio) (by decide +kernel)) (by decide) (fun _ _ _ _ _ => (wg_name (i := 1) sc_u_law_is_ratio.nd rfl (.inl rfl))) (fun _ _ _ _ _ => wts_nil) (fun _ _ _ _ _ => (we_and (w_isi .int (by rfl) T.m_isinstance (by rfl) T.m_int (by decide +kernel) (w_var 1) (fun t h => pe_callB call_isi (by rfl) T.m_isinstance (by decide +kernel) (pa_cons h (pa_cons (pe_bltn (v := .ty "int") (by rfl) T.m_int (by decide +kernel) rfl) pa_nil)))) (we_one (we_not (w_isi .bool (by rfl) T.m_isinstance (by rfl) T.m_bool (by decide +kernel) (w_var 1) (fun t h => pe_callB call_isi (by rfl) T.m_isinstance (by decide +kernel) (pa_cons h (pa_cons (pe_bltn (v := .ty "bool") (by rfl) T.m_bool (by decide +kernel) rfl) pa_nil)))))))))) wa_nil) (fun t h => pe_callB (cr_all rfl) (by rfl) T.m_all (by decide +kernel) h)))) (wss_one (ws_ret w_bl)) wss_nil)
      (wss_one (ws_ret (we_and (w_gt (w_ix (w_var 0) w_int (fun _ _ => rfl)) w_int) (we_one (w_eq hr (w_call G_u_law_part hr hgs (by rfl) T.g_u_law_part T.F_u_law_part.kp T.b_u_law_part (wa_cons (w_ix (w_var 0) w_int (fun _ _ => rfl)) (wa_cons (w_ix (w_var 0) w_int (fun _ _ => rfl)) wa_nil))) w_int)))))))) ?body
  case len =>
    rintro args S R ⟨rfl, ds, R0, rfl, h, q⟩
    exact len_is_ratio h
  case body =>
    rintro args S R ⟨rfl, ds, R0, rfl, h, q⟩
    obtain ⟨d, rfl, hR⟩ := h
    cases d with
    | tuple xs =>
      walk_at "w"
      refine brN (fun hl => ?_) (fun hl => ?_)
      · refine q _ ?_ []
        match xs, hR, hl with
        | [], hR, _ => exact hR
        | [_], hR, _ => simp only [ratioB] at hR; exact hR
        | [_, _], _, hl => exact absurd rfl hl
        | _ :: _ :: _ :: _, hR, _ => simp only [ratioB] at hR; exact hR
      match xs, hR, hl with
      | [x, y], hR, _ =>
        walk_at "w"
        refine lcb_map (fun d => .bool (isInt d)) (by show 2 ≤ sizeLine; decide) (fun d _ k hk => ?_) ?_
        · cases d <;> exact hk
        cases x with
        | int t =>
          cases y with
          | int u =>
            walk_at "w"
            refine brB (fun h => ?_) (fun h => ?_)
            · refine ⟨t, u, rfl, ?_⟩
              simp only [ratioB, h, Bool.true_and] at hR
              exact q _ hR []
            · simp only [ratioB, h, Bool.false_and] at hR
              exact q _ hR []
          | _ => exact q _ hR []
        | _ => exact q _ hR []
      | [], _, hl => simp at hl
      | [_], _, hl => simp at hl
      | _ :: _ :: _ :: _, _, hl => simp only [List.length_cons] at hl; omega
    | _ => exact q _ hR []
/-! ### _law_is_span -/
def spec_is_span' (ds : List PyData) (R : PyData → Prop) : Prop := ∃ d, ds = [d] ∧ SmallS 3800 d ∧ R (.bool (spanB d))
theorem len_is_span' {ds : List PyData} {R : PyData → Prop} (h : spec_is_span' ds R) : (dA ds).length = 1 := by
  obtain ⟨_, rfl, _⟩ := h; rfl
@[reducible] def ratF' (d : PyData) : PyData := .bool (ratioB d)
theorem ratio_is' {x : PyData} (h : ratioB x = true) : ∃ a b : Int, x = .tuple [.int a, .int b] ∧ RatOk a b := by
  unfold ratioB at h
  split at h
  · rename_i a b
    simp only [Bool.and_eq_true, decide_eq_true_eq] at h
    exact ⟨a, b, rfl, h.1, by have := h.2; omega⟩
  · cases h
theorem ok_u_law_is_span (T : Top K w mg a_u_law_bag d_u_law_bag a_is_less d_is_less a_is_integer d_is_integer a_common d_common a_is_ratio d_is_ratio a_is_span d_is_span a_is_cuts d_is_cuts a_u_law_take d_u_law_take a_u_law_drawn_grain d_u_law_drawn_grain a_u_law_part d_u_law_part a_u_law_lowest d_u_law_lowest a_u_law_form d_u_law_form a_u_law_units d_u_law_units a_u_law_odd d_u_law_odd a_u_law_end d_u_law_end a_u_law_changed d_u_law_changed a_u_law_is_ratio d_u_law_is_ratio a_u_law_is_span d_u_law_is_span a_u_law_is_set d_u_law_is_set a_law d_law) (G_u_law_is_ratio : FnOkG P w K mg base 2 a_u_law_is_ratio d_u_law_is_ratio ["thing"] (upF K (pur spec_is_ratio))) :
    FnOkG P w K mg base 3 a_u_law_is_span d_u_law_is_span ["thing"] (upF K (pur spec_is_span')) := by
  refine okP (k := 2) T.F_u_law_is_span sc_u_law_is_span (n := 4) rfl ?len (fun cdv A outer s H E hr hgs => (wss_consB (ws_if (WW.wt (ww_or (wt_not (w_val (w_isi .tuple (by rfl) T.m_isinstance (by rfl) T.m_tuple (by decide +kernel) (w_var 0) (fun t h => pe_callB call_isi (by rfl) T.m_isinstance (by decide +kernel) (pa_cons h (pa_cons (pe_bltn (v := .ty "tuple") (by rfl) T.m_tuple (by decide +kernel) rfl) pa_nil)))))) (ww_or (wt_ne hr (w_bi ok_len (wa_cons (w_var 0) wa_nil) (fun t h => pe_callB (call_len_seq.or call_len_str) (by rfl) T.m_len (by decide +kernel) h)) w_int) (ww_or1 (wt_not (w_val (w_bi ok_all (wa_cons (w_ne (wn_lc (own := [("end", 3)]) rfl sc_u_law_is_span.nd (wi_tup (w_var 0)) (blkOk_by (N := ["thing", "low", "high", "end"]) (sc := defScope s_u_law_is_span) (by decide +kernel)) (by decide) (fun _ _ _ _ _ => (wg_name (i := 3) sc_u_law_is_span.nd rfl (.inl rfl))) (fun _ _ _ _ _ => wts_nil) (fun _ _ _ _ _ => (w_call G_u_law_is_ratio hr hgs (by rfl) T.g_u_law_is_ratio T.F_u_law_is_ratio.kp T.b_u_law_is_ratio (wa_cons (w_var 3) wa_nil))))) wa_nil) (fun t h => pe_callB (cr_all rfl) (by rfl) T.m_all (by decide +kernel) h)))))))) (wss_one (ws_ret w_bl)) wss_nil)
      (wss_consB (ws_asg (w_var 0) (wg_tup (n := 2) rfl (wgs_cons (wg_name (i := 1) sc_u_law_is_span.nd rfl (.inl rfl)) (wgs_cons (wg_name (i := 2) sc_u_law_is_span.nd rfl (.inl rfl)) wgs_nil))))
      (wss_one (ws_ret (we_and (w_le w_int (w_ix (w_var 1) w_int (fun _ _ => rfl))) (we_and (w_lt (w_mul (w_ix (w_var 1) w_int (fun _ _ => rfl)) (w_ix (w_var 2) w_int (fun _ _ => rfl))) (w_mul (w_ix (w_var 2) w_int (fun _ _ => rfl)) (w_ix (w_var 1) w_int (fun _ _ => rfl)))) (we_one (w_le (w_ix (w_var 2) w_int (fun _ _ => rfl)) (w_ix (w_var 2) w_int (fun _ _ => rfl))))))))))) ?body
  case len =>
    rintro args S R ⟨rfl, ds, R0, rfl, h, q⟩
    exact len_is_span' h
  case body =>
    rintro args S R ⟨rfl, ds, R0, rfl, h, q⟩
    obtain ⟨d, rfl, sm, hR⟩ := h
    cases d with
    | tuple xs =>
      walk_at "n"
      refine brN (fun hl => ?_) (fun hl => ?_)
      · refine q _ ?_ _
        match xs, hR, hl with
        | [], hR, _ => exact hR
        | [_], hR, _ => exact hR
        | [_, _], _, hl => exact absurd rfl hl
        | _ :: _ :: _ :: _, hR, _ => exact hR
      match xs, hR, hl, sm with
      | [x, y], hR, _, sm =>
        walk_at "n"
        refine lcb_map ratF' (show 2 ≤ sizeLine by decide) (fun d hd k hk => ?_) ?_
        · walk_at "n"
          refine ⟨d, rfl, ?_⟩
          exact hk
        have es : spanB (.tuple [x, y]) = ((ratioB x && ratioB y) && (posB x && (lessB x y && !lessB (.tuple [.int 1, .int 1]) y))) := rfl
        rw [es] at hR
        cases ex : ratioB x with
        | false =>
          walk_at "n"
          rw [ex] at hR ⊢
          walk_at "n"
          exact q _ hR _
        | true =>
          cases ey : ratioB y with
          | false =>
            walk_at "n"
            rw [ex, ey] at hR ⊢
            walk_at "n"
            exact q _ hR _
          | true =>
            obtain ⟨a, b, rfl, r1⟩ := ratio_is' ex
            obtain ⟨c, e, rfl, r2⟩ := ratio_is' ey
            obtain ⟨⟨s1, s2⟩, s3, s4⟩ := sm
            walk_at "n"
            rw [ex, ey] at hR ⊢
            walk_at "n"
            have ep : posB (.tuple [.int a, .int b]) = decide (0 ≤ a) := rfl
            have el : lessB (.tuple [.int a, .int b]) (.tuple [.int c, .int e]) = decide (a * e < c * b) := rfl
            have em : (!lessB (.tuple [.int 1, .int 1]) (.tuple [.int c, .int e])) = decide (c ≤ e) := by
              show (!decide (1 * e < c * 1)) = _
              rw [Int.one_mul, Int.mul_one]
              by_cases h : c ≤ e
              · rw [decide_eq_true h, decide_eq_false (by omega)]; rfl
              · rw [decide_eq_false h, decide_eq_true (by omega)]; rfl
            rw [ep, el, em] at hR
            refine brD (fun h1 => ?_) (fun h1 => ?_)
            · rw [decide_eq_true h1] at hR
              walk_at "n"
              refine ⟨mulP (m := 3800) (n := 3800) s1 s4, ?_⟩
              walk_at "n"
              refine ⟨mulP (m := 3800) (n := 3800) s3 s2, ?_⟩
              walk_at "n"
              refine brD (fun h2 => ?_) (fun h2 => ?_)
              · rw [decide_eq_true h2] at hR
                walk_at "n"
                exact q _ hR _
              · rw [decide_eq_false h2] at hR
                exact q _ hR _
            · rw [decide_eq_false h1] at hR
              exact q _ hR _
      | [], _, hl, _ => simp at hl
      | [_], _, hl, _ => simp at hl
      | _ :: _ :: _ :: _, _, hl, _ => simp only [List.length_cons] at hl; omega
    | _ => exact q _ hR []
/-! ### _law_is_set -/
def spec_is_set7 (ds : List PyData) (R : PyData → Prop) : Prop := ∃ d, ds = [d] ∧ SmallC 3800 d ∧ R (.bool (cutsB d))
theorem len_is_set7 {ds : List PyData} {R : PyData → Prop} (h : spec_is_set7 ds R) : (dA ds).length = 1 := by
  obtain ⟨_, rfl, _⟩ := h; rfl
theorem ok_u_law_is_set (T : Top K w mg a_u_law_bag d_u_law_bag a_is_less d_is_less a_is_integer d_is_integer a_common d_common a_is_ratio d_is_ratio a_is_span d_is_span a_is_cuts d_is_cuts a_u_law_take d_u_law_take a_u_law_drawn_grain d_u_law_drawn_grain a_u_law_part d_u_law_part a_u_law_lowest d_u_law_lowest a_u_law_form d_u_law_form a_u_law_units d_u_law_units a_u_law_odd d_u_law_odd a_u_law_end d_u_law_end a_u_law_changed d_u_law_changed a_u_law_is_ratio d_u_law_is_ratio a_u_law_is_span d_u_law_is_span a_u_law_is_set d_u_law_is_set a_law d_law) (G_u_law_is_span : FnOkG P w K mg base 3 a_u_law_is_span d_u_law_is_span ["thing"] (upF K (pur spec_is_span'))) :
    FnOkG P w K mg base 4 a_u_law_is_set d_u_law_is_set ["thing"] (upF K (pur spec_is_set7)) := by
  refine okP (k := 3) T.F_u_law_is_set sc_u_law_is_set (n := 4) rfl ?len (fun cdv A outer s H E hr hgs => (wss_consB (ws_if (WW.wt (ww_or (wt_not (w_val (w_isi .list (by rfl) T.m_isinstance (by rfl) T.m_list (by decide +kernel) (w_var 0) (fun t h => pe_callB call_isi (by rfl) T.m_isinstance (by decide +kernel) (pa_cons h (pa_cons (pe_bltn (v := .ty "list") (by rfl) T.m_list (by decide +kernel) rfl) pa_nil)))))) (ww_or1 (wt_not (w_val (w_bi ok_all (wa_cons (w_ne (wn_lc (own := [("span", 1)]) rfl sc_u_law_is_set.nd (wi_list (w_var 0)) (blkOk_by (N := ["thing", "span", "one", "other"]) (sc := defScope s_u_law_is_set) (by decide +kernel)) (by decide) (fun _ _ _ _ _ => (wg_name (i := 1) sc_u_law_is_set.nd rfl (.inl rfl))) (fun _ _ _ _ _ => wts_nil) (fun _ _ _ _ _ => (w_call G_u_law_is_span hr hgs (by rfl) T.g_u_law_is_span T.F_u_law_is_span.kp T.b_u_law_is_span (wa_cons (w_var 1) wa_nil))))) wa_nil) (fun t h => pe_callB (cr_all rfl) (by rfl) T.m_all (by decide +kernel) h))))))) (wss_one (ws_ret w_bl)) wss_nil)
      (wss_one (ws_ret (w_bi ok_all (wa_cons (w_ne (wn_lc (own := [("one", 2), ("other", 3)]) rfl sc_u_law_is_set.nd (wi_zip (wa_cons (w_var 0) (wa_cons (w_ne (wn_slice (w_var 0) (wo_some w_int) wo_none)) wa_nil)) (fun t h => pi_zip (by rfl) T.m_zip h)) (blkOk_by (N := ["thing", "span", "one", "other"]) (sc := defScope s_u_law_is_set) (by decide +kernel)) (by decide) (fun _ _ _ _ _ => (wg_tup (n := 2) rfl (wgs_cons (wg_name (i := 2) sc_u_law_is_set.nd rfl (.inl rfl)) (wgs_cons (wg_name (i := 3) sc_u_law_is_set.nd rfl (.inl rfl)) wgs_nil)))) (fun _ _ _ _ _ => wts_nil) (fun _ _ _ _ _ => (w_lt (w_mul (w_ix (w_ix (w_var 2) w_int (fun _ _ => rfl)) w_int (fun _ _ => rfl)) (w_ix (w_ix (w_var 3) w_int (fun _ _ => rfl)) w_int (fun _ _ => rfl))) (w_mul (w_ix (w_ix (w_var 3) w_int (fun _ _ => rfl)) w_int (fun _ _ => rfl)) (w_ix (w_ix (w_var 2) w_int (fun _ _ => rfl)) w_int (fun _ _ => rfl))))))) wa_nil) (fun t h => pe_callB (cr_all rfl) (by rfl) T.m_all (by decide +kernel) h)))))) ?body
  case len =>
    rintro args S R ⟨rfl, ds, R0, rfl, h, q⟩
    exact len_is_set7 h
  case body =>
    rintro args S R ⟨rfl, ds, R0, rfl, h, q⟩
    obtain ⟨d, rfl, sm, hR⟩ := h
    cases d with
    | list xs =>
      obtain ⟨lx, sx⟩ := sm
      have es : cutsB (.list xs) = (xs.all spanB && gapsB xs) := rfl
      rw [es] at hR
      walk_at "n"
      refine lcb_map spanF (Nat.le_trans lx (by decide)) (fun d hd k hk => ?_) ?_
      · walk_at "n"
        refine ⟨d, rfl, sx d hd, ?_⟩
        exact hk
      rw [spanF_D]
      walk_at "n"
      rw [Pu.boolsD_map]
      walk_at "n"
      rw [allB_eq, List.all_map]
      rw [show (List.all xs (id ∘ spanB)) = xs.all spanB from rfl]
      cases ea : xs.all spanB with
      | false =>
        rw [ea] at hR
        walk_at "n"
        exact q _ hR _
      | true =>
        rw [ea] at hR
        walk_at "n"
        rw [cut_tail]
        have hz : ∀ x ∈ xs, spanB x = true := fun x hx => List.all_eq_true.mp ea x hx
        refine lcb_map gapF (Nat.le_trans (zip_len _ _) (Nat.le_trans lx (by decide))) (fun d hd k hk => ?_) ?_
        · obtain ⟨x, y, mx', my', rfl⟩ := zip_mem hd
          have my' := List.mem_of_mem_drop my'
          obtain ⟨a, b, c, e, rfl, r1, r2⟩ := span_is (hz x mx')
          obtain ⟨a', b', c', e', rfl, r3, r4⟩ := span_is (hz y my')
          have sx1 : SmallS 3800 (.tuple [.tuple [.int a, .int b], .tuple [.int c, .int e]]) := sx _ mx'
          have sy1 : SmallS 3800 (.tuple [.tuple [.int a', .int b'], .tuple [.int c', .int e']]) := sx _ my'
          obtain ⟨_, s1, s2⟩ := sx1
          obtain ⟨⟨s3, s4⟩, _⟩ := sy1
          walk_at "n"
          refine ⟨mulP (m := 3800) (n := 3800) s1 s4, ?_⟩
          walk_at "n"
          refine ⟨mulP (m := 3800) (n := 3800) s3 s2, ?_⟩
          walk_at "n"
          exact hk
        rw [show mapD gapF (zipD xs (xs.drop 1)) = ((zipD xs (xs.drop 1)).map gapP).map PyData.bool from by rw [mapD_eq, List.map_map]; exact List.map_congr_left fun d _ => gap_F d]
        walk_at "n"
        rw [Pu.boolsD_map]
        walk_at "n"
        rw [allB_eq, List.all_map]
        rw [show (List.all (zipD xs (xs.drop 1)) (id ∘ gapP)) = gapsB xs from gaps_zip hz]
        exact q _ hR _
    | _ => exact q _ hR []
/-! ### law -/
theorem sml_r {a b : Int} (ha : a.natAbs ≤ 9) (hb : b.natAbs ≤ 9) : SmallR 3800 (.tuple [.int a, .int b]) := ⟨lt_up (m := 20) (by omega) (by decide), lt_up (m := 20) (by omega) (by decide)⟩
theorem sml_one : SmallC 3800 (.list [.tuple [.tuple [.int 0, .int 1], .tuple [.int 1, .int 1]]]) := ⟨by decide, fun x hx => by
  rw [List.mem_singleton] at hx; subst hx
  exact ⟨sml_r (by decide) (by decide), sml_r (by decide) (by decide)⟩⟩
theorem sml_two : SmallC 3800 (.list [.tuple [.tuple [.int 0, .int 1], .tuple [.int 1, .int 2]], .tuple [.tuple [.int 1, .int 2], .tuple [.int 1, .int 1]]]) := ⟨by decide, fun x hx => by
  simp only [List.mem_cons, List.not_mem_nil, or_false] at hx
  rcases hx with rfl | rfl
  · exact ⟨sml_r (by decide) (by decide), sml_r (by decide) (by decide)⟩
  · exact ⟨sml_r (by decide) (by decide), sml_r (by decide) (by decide)⟩⟩
theorem ok_law (T : Top K w mg a_u_law_bag d_u_law_bag a_is_less d_is_less a_is_integer d_is_integer a_common d_common a_is_ratio d_is_ratio a_is_span d_is_span a_is_cuts d_is_cuts a_u_law_take d_u_law_take a_u_law_drawn_grain d_u_law_drawn_grain a_u_law_part d_u_law_part a_u_law_lowest d_u_law_lowest a_u_law_form d_u_law_form a_u_law_units d_u_law_units a_u_law_odd d_u_law_odd a_u_law_end d_u_law_end a_u_law_changed d_u_law_changed a_u_law_is_ratio d_u_law_is_ratio a_u_law_is_span d_u_law_is_span a_u_law_is_set d_u_law_is_set a_law d_law) (G_u_law_bag : FnOkG P w K mg base 1 a_u_law_bag d_u_law_bag ["script", "at"] (upF K (newF spec_u_law_bag))) (G_is_cuts : FnOkG P w K mg base 4 a_is_cuts d_is_cuts ["thing"] (upF K (pur spec_is_cuts))) (G_u_law_drawn_grain : FnOkG P w K mg base 2 a_u_law_drawn_grain d_u_law_drawn_grain ["bag"] (upF K (mutF (spec_draw (fun d => ∃ g : Int, d = .int g ∧ 1 ≤ g ∧ g ≤ 30))))) (G_u_law_form : FnOkG P w K mg base 3 a_u_law_form d_u_law_form ["units", "grain"] (upF K (pur spec_form))) (G_u_law_units : FnOkG P w K mg base 2 a_u_law_units d_u_law_units ["bag", "grain"] (upF K (mutF spec_unitsL))) (G_u_law_changed : FnOkG P w K mg base 3 a_u_law_changed d_u_law_changed ["bag", "some"] (upF K (mutF spec_changed))) (G_u_law_odd : FnOkG P w K mg base 2 a_u_law_odd d_u_law_odd ["bag"] (upF K (mutF (spec_draw oddP)))) (G_u_law_is_set : FnOkG P w K mg base 4 a_u_law_is_set d_u_law_is_set ["thing"] (upF K (pur spec_is_set7))) :
    LawOk P w K mg base a_law d_law := by
  refine okLaw (k := 4) T.F_law sc_law (n := 9) rfl ⟨rfl, by decide, by decide⟩ (fun cdv s H hr hgs => (wss_consB (ws_for PassesOwn.never rfl (wi_range1 (by rfl) T.m_range (wa_cons (w_bi ok_max2 (wa_cons w_int (wa_cons (w_bi ok_min2 (wa_cons w_int (wa_cons (w_bi ok_len (wa_cons (w_var 0) wa_nil) (fun t h => pe_callB (call_len_seq.or call_len_str) (by rfl) T.m_len (by decide +kernel) h)) wa_nil)) (fun t h => pe_callB (call_min2 rfl) (by rfl) T.m_min (by decide +kernel) h)) wa_nil)) (fun t h => pe_callB (call_max2 rfl) (by rfl) T.m_max (by decide +kernel) h)) wa_nil)) (wg_name (i := 1) sc_law.nd rfl (.inl rfl)) (wss_consB (ws_setN (i := 2) sc_law.nd rfl (.inl rfl) (w_callN G_u_law_bag (hr.mono (by decide)) hgs (by rfl) T.g_u_law_bag T.F_u_law_bag.kp T.b_u_law_bag (wa_cons (w_var 0) (wa_cons (w_var 1) wa_nil))))
      (wss_one (ws_for PassesOwn.never rfl (wi_range1 (by rfl) T.m_range (wa_cons w_int wa_nil)) (wg_name (i := 3) sc_law.nd rfl (.inl rfl)) (wss_consB (ws_set (i := 4) sc_law.nd rfl (.inl rfl) (w_callM G_u_law_drawn_grain (hr.mono (by decide)) hgs (by rfl) T.g_u_law_drawn_grain T.F_u_law_drawn_grain.kp T.b_u_law_drawn_grain (wa_cons (w_var 2) wa_nil)))
      (wss_consB (ws_set (i := 5) sc_law.nd rfl (.inl rfl) (w_call G_u_law_form (hr.mono (by decide)) hgs (by rfl) T.g_u_law_form T.F_u_law_form.kp T.b_u_law_form (wa_cons (w_callM G_u_law_units (hr.mono (by decide)) hgs (by rfl) T.g_u_law_units T.F_u_law_units.kp T.b_u_law_units (wa_cons (w_var 2) (wa_cons (w_var 4) wa_nil))) (wa_cons (w_var 4) wa_nil))))
      (wss_consB (ws_if (wt_notB (w_call G_is_cuts hr hgs (by rfl) T.g_is_cuts T.F_is_cuts.kp T.b_is_cuts (wa_cons (w_var 5) wa_nil)) w_bl) (wss_one (ws_ret w_bl)) wss_nil)
      (wss_one (ws_for PassesOwn.never rfl (wi_list (w_list (wa_cons (w_callM G_u_law_changed (hr.mono (by decide)) hgs (by rfl) T.g_u_law_changed T.F_u_law_changed.kp T.b_u_law_changed (wa_cons (w_var 2) (wa_cons (w_var 5) wa_nil))) (wa_cons (w_callM G_u_law_changed (hr.mono (by decide)) hgs (by rfl) T.g_u_law_changed T.F_u_law_changed.kp T.b_u_law_changed (wa_cons (w_var 2) (wa_cons (w_var 5) wa_nil))) (wa_cons (w_callM G_u_law_odd (hr.mono (by decide)) hgs (by rfl) T.g_u_law_odd T.F_u_law_odd.kp T.b_u_law_odd (wa_cons (w_var 2) wa_nil)) (wa_cons (w_list (wa_cons (w_callM G_u_law_odd (hr.mono (by decide)) hgs (by rfl) T.g_u_law_odd T.F_u_law_odd.kp T.b_u_law_odd (wa_cons (w_var 2) wa_nil)) wa_nil)) wa_nil)))))) (wg_name (i := 6) sc_law.nd rfl (.inr rfl)) (wss_consB (ws_set (i := 7) sc_law.nd rfl (.inl rfl) (w_bi ok_reprA (wa_cons (w_var 6) wa_nil) (fun t h => pe_callB (call_reprA hgs hr) (by rfl) T.m_repr (by decide +kernel) h)))
      (wss_consB (ws_if (wt_ne hr (w_bi ok_reprA (wa_cons (w_ne (wn_lc (own := [("again", 8)]) rfl sc_law.nd (wi_range1 (by rfl) T.m_range (wa_cons w_int wa_nil)) (blkOk_by (N := ["script", "k", "bag", "turn", "grain", "some", "thing", "shown", "again"]) (sc := defScope s_law) (by decide +kernel)) (by decide) (fun _ _ _ _ _ => (wg_name (i := 8) sc_law.nd rfl (.inl rfl))) (fun _ _ _ _ _ => wts_nil) (fun _ _ _ _ _ => (w_call G_is_cuts hr hgs (by rfl) T.g_is_cuts T.F_is_cuts.kp T.b_is_cuts (wa_cons (w_var 6) wa_nil))))) wa_nil) (fun t h => pe_callB (call_reprA hgs hr) (by rfl) T.m_repr (by decide +kernel) h)) (w_bi ok_reprA (wa_cons (w_ne (wn_rep (wn_list (wa_cons (w_call G_u_law_is_set hr hgs (by rfl) T.g_u_law_is_set T.F_u_law_is_set.kp T.b_u_law_is_set (wa_cons (w_var 6) wa_nil)) wa_nil)) w_int)) wa_nil) (fun t h => pe_callB (call_reprA hgs hr) (by rfl) T.m_repr (by decide +kernel) h))) (wss_one (ws_ret w_bl)) wss_nil)
      (wss_one (ws_if (wt_ne hr (w_bi ok_reprA (wa_cons (w_var 6) wa_nil) (fun t h => pe_callB (call_reprA hgs hr) (by rfl) T.m_repr (by decide +kernel) h)) (w_var 7)) (wss_one (ws_ret w_bl)) wss_nil)))))))))))))
      (wss_one (ws_ret (we_and (w_call G_is_cuts hr hgs (by rfl) T.g_is_cuts T.F_is_cuts.kp T.b_is_cuts (wa_cons (w_list wa_nil) wa_nil)) (we_and (w_call G_is_cuts hr hgs (by rfl) T.g_is_cuts T.F_is_cuts.kp T.b_is_cuts (wa_cons (w_list (wa_cons (w_tup (wa_cons (w_tup (wa_cons w_int (wa_cons w_int wa_nil))) (wa_cons (w_tup (wa_cons w_int (wa_cons w_int wa_nil))) wa_nil))) wa_nil)) wa_nil)) (we_one (we_not (w_call G_is_cuts hr hgs (by rfl) T.g_is_cuts T.F_is_cuts.kp T.b_is_cuts (wa_cons (w_list (wa_cons (w_tup (wa_cons (w_tup (wa_cons w_int (wa_cons w_int wa_nil))) (wa_cons (w_tup (wa_cons w_int (wa_cons w_int wa_nil))) wa_nil))) (wa_cons (w_tup (wa_cons (w_tup (wa_cons w_int (wa_cons w_int wa_nil))) (wa_cons (w_tup (wa_cons w_int (wa_cons w_int wa_nil))) wa_nil))) wa_nil))) wa_nil)))))))))) ?body
  case body =>
    intro ns hlen
    walk_at "n"
    refine ⟨ks_bound _, fun i ρ S => ρ = [some (.d (.list (ns.map PyData.int))), none, none, none, none, none, none, none, none] ∧ S = [], ⟨rfl, rfl⟩, ?_, ?_⟩
    · rintro i d _ _ hd ⟨rfl, rfl⟩
      obtain ⟨rfl, hi⟩ := rngD_at hd
      have hk := ks_le hi
      refine ⟨ns, _, rfl, by omega, by omega, fun a b ha hb hb2 => ?_⟩
      walk_at "n"
      refine ⟨by decide, fun j ρ S => ∃ (a b : Int), BagOk a b ∧ ρ = [some (.d (.list (ns.map PyData.int))), some (.d (.int (0 + (i : Nat)))), some (.cel 0), none, none, none, none, none, none] ∧ S = [.lst [.int a, .int b]], ⟨a, b, ⟨ha, hb, hb2⟩, rfl, rfl⟩, ?_, ?_⟩
      · rintro j d _ _ hd ⟨a, b, ok, rfl, rfl⟩
        walk_at "n"
        refine ⟨a, b, rfl, rfl, ok, ?_⟩
        rintro _ a1 b1 ⟨g, rfl, g1, g30⟩ ok1
        walk_at "n"
        refine ⟨a1, b1, g, rfl, rfl, ok1, g1, by omega, fun us a2 b2 asc hus ul ok2 => ?_⟩
        walk_at "n"
        refine ⟨us, g, rfl, g1, by omega, fun x hx xl => ?_⟩
        have hg : 0 < g := by omega
        have ing := hx.norm.inG hg (lt_up (m := 20) (by omega) (by decide))
        have hxe : ∀ s ∈ x, 0 ≤ s.1 ∧ s.1 ≤ g ∧ 0 ≤ s.2 ∧ s.2 ≤ g := fun s hs => by
          obtain ⟨⟨s0, s1⟩, s2, s3⟩ := ing.ends s hs
          omega
        have hxn := hx.norm
        walk_at "n"
        refine ⟨_, rfl, small_spans ing (by omega), ?_⟩
        rw [cuts_ok hg (Int.le_refl 0) hxn]
        walk_at "n"
        refine ⟨a2, b2, g, x, rfl, rfl, ok2, hg, by omega, hxe, by omega, fun d1 a3 b3 k1 ok3 => ?_⟩
        walk_at "n"
        refine ⟨a3, b3, g, x, rfl, rfl, ok3, hg, by omega, hxe, by omega, fun d2 a4 b4 k2 ok4 => ?_⟩
        walk_at "n"
        refine ⟨a4, b4, rfl, rfl, ok4, fun d3 a5 b5 k3 ok5 => ?_⟩
        walk_at "n"
        refine ⟨a5, b5, rfl, rfl, ok5, fun d4 a6 b6 k4 ok6 => ?_⟩
        have hall : ∀ y ∈ [d1, d2, d3, .list [d4]], ChOk y := fun y hy => by
          simp only [List.mem_cons, List.not_mem_nil, or_false] at hy
          rcases hy with rfl | rfl | rfl | rfl
          · exact k1
          · exact k2
          · exact odd_ch _ k3
          · exact ch_list (fun z hz => by rw [List.mem_singleton] at hz; subst hz; exact odd_el _ k4) (by simp)
        walk_at "n"
        refine ⟨fun m ρ S => ∃ (o6 o7 : Option PV), ρ = [some (.d (.list (ns.map PyData.int))), some (.d (.int (0 + (i : Nat)))), some (.cel 0), some (.d d), some (.d (.int g)), some (.d (.list (x.map (spanD g)))), o6, o7, none] ∧ S = [.lst [.int a6, .int b6]], ⟨_, _, rfl, rfl⟩, ?_, ?_⟩
        · rintro m y _ _ hy ⟨o6, o7, rfl, rfl⟩
          have ck := hall y (List.mem_of_getElem? hy)
          walk_at "n"
          refine ck.shw.on ?_
          have sh2 : Shw 100 2 (.list [.bool (cutsB y), .bool (cutsB y)]) := (shw_list (n := 0) (b := 5) (m := 2) (fun z hz => by
            simp only [List.mem_cons, List.not_mem_nil, or_false] at hz
            rcases hz with rfl | rfl <;> exact shw_bool _) (Nat.le_refl _)).up (by decide) (by decide)
          walk_at "n"
          refine ⟨by decide, ?_⟩
          walk_at "n"
          refine lcb_map (fun _ => .bool (cutsB y)) (show 2 ≤ sizeLine by decide) (fun d hd k hk => ?_) ?_
          · walk_at "n"
            refine ⟨y, rfl, ck.small, ?_⟩
            exact hk
          walk_at "n"
          refine sh2.on ?_
          walk_at "n"
          refine ⟨y, rfl, ck.small, ?_⟩
          walk_at "n"
          refine ⟨⟨by decide, by decide, show 1 * 2 ≤ sizeLine by decide⟩, ?_⟩
          walk_at "n"
          refine sh2.on ?_
          refine brNE rfl ?_
          walk_at "n"
          refine ck.shw.on ?_
          refine brNE rfl ?_
          walk_at "n"
          exact .inl ⟨_, _, rfl, rfl⟩
        · rintro _ _ ⟨o6, o7, rfl, rfl⟩
          walk_at "n"
          exact nx_gc [.lst [.int a6, .int b6]] ⟨a6, b6, ok6, rfl, rfl⟩ ⟨keepS trivial, keepS trivial, keepS (Nat.zero_lt_one), .inl rfl, .inl rfl, .inl rfl, .inl rfl, .inl rfl, .inl rfl, trivial⟩ (Nat.le_refl _) ⟨[], rfl⟩
      · rintro _ _ ⟨a, b, ok, rfl, rfl⟩
        walk_at "n"
        exact nx_gc [] ⟨rfl, rfl⟩ ⟨keepS trivial, .inl rfl, .inl rfl, .inl rfl, .inl rfl, .inl rfl, .inl rfl, .inl rfl, .inl rfl, trivial⟩ (Nat.zero_le _) ⟨_, rfl⟩
    · rintro _ _ ⟨rfl, rfl⟩
      walk_at "n"
      refine ⟨_, rfl, ⟨by decide, fun x hx => by cases hx⟩, ?_⟩
      rw [show cutsB (.list []) = true from rfl]
      walk_at "n"
      refine ⟨_, rfl, sml_one, ?_⟩
      rw [show cutsB (.list [.tuple [.tuple [.int 0, .int 1], .tuple [.int 1, .int 1]]]) = true from by decide +kernel]
      walk_at "n"
      refine ⟨_, rfl, sml_two, ?_⟩
      rw [show cutsB (.list [.tuple [.tuple [.int 0, .int 1], .tuple [.int 1, .int 2]], .tuple [.tuple [.int 1, .int 2], .tuple [.int 1, .int 1]]]) = false from by decide +kernel]
      walk_at "n"
end
theorem all_mk {l : PySem.W.OpenLaw} {w : World} {K : PySem.W.Frag} {h : Heap} {mg : Str → Option Value} {fa f0 f1 f2 f3 f4 f5 f6 f7 f8 f9 f10 f11 f12 f13 f14 f15 f16 f17 f18 f19 : Addr} (X : K.In h) (G : h.Ns mainGlobals mg) (hfa : mg "law" = some (.ref fa))
    {od0 an0 od1 an1 od2 an2 od3 an3 od4 an4 od5 an5 od6 an6 od7 an7 od8 an8 od9 an9 od10 an10 od11 an11 od12 an12 od13 an13 od14 an14 od15 an15 od16 an16 od17 an17 od18 an18 od19 an19 : Option Addr} {sl0 sl1 sl2 sl3 sl4 sl5 sl6 sl7 sl8 sl9 sl10 sl11 sl12 sl13 sl14 sl15 sl16 sl17 sl18 sl19 : Array (Option Value)} {oc0 kV0 dc0 pm0 cd0 ct0 oc1 kV1 dc1 pm1 cd1 ct1 oc2 kV2 dc2 pm2 cd2 ct2 oc3 kV3 dc3 pm3 cd3 ct3 oc4 kV4 dc4 pm4 cd4 ct4 oc5 kV5 dc5 pm5 cd5 ct5 oc6 kV6 dc6 pm6 cd6 ct6 oc7 kV7 dc7 pm7 cd7 ct7 oc8 kV8 dc8 pm8 cd8 ct8 oc9 kV9 dc9 pm9 cd9 ct9 oc10 kV10 dc10 pm10 cd10 ct10 oc11 kV11 dc11 pm11 cd11 ct11 oc12 kV12 dc12 pm12 cd12 ct12 oc13 kV13 dc13 pm13 cd13 ct13 oc14 kV14 dc14 pm14 cd14 ct14 oc15 kV15 dc15 pm15 cd15 ct15 oc16 kV16 dc16 pm16 cd16 ct16 oc17 kV17 dc17 pm17 cd17 ct17 oc18 kV18 dc18 pm18 cd18 ct18 oc19 kV19 dc19 pm19 cd19 ct19 : Value}
    (p0 : PySem.W.nsIn K mainGlobals "_law_bag" = some (some (.ref f0))) (l0 : K.lookup f0 = some ⟨oc0, od0, .func (PySem.W.fnOf "_law_bag" "_law_bag" (defArgs s_u_law_bag) (defBody s_u_law_bag) (defScope s_u_law_bag) .none kV0 dc0 pm0 an0 cd0 ct0), sl0⟩) (c0 : PySem.W.codeIn K cd0 "_law_bag" = true) (k0 : PySem.W.keepIn K (.ref f0) = true)
    (p1 : PySem.W.nsIn K mainGlobals "is_less" = some (some (.ref f1))) (l1 : K.lookup f1 = some ⟨oc1, od1, .func (PySem.W.fnOf "is_less" "is_less" (defArgs s_is_less) (defBody s_is_less) (defScope s_is_less) .none kV1 dc1 pm1 an1 cd1 ct1), sl1⟩) (c1 : PySem.W.codeIn K cd1 "is_less" = true) (k1 : PySem.W.keepIn K (.ref f1) = true)
    (p2 : PySem.W.nsIn K mainGlobals "is_integer" = some (some (.ref f2))) (l2 : K.lookup f2 = some ⟨oc2, od2, .func (PySem.W.fnOf "is_integer" "is_integer" (defArgs s_is_integer) (defBody s_is_integer) (defScope s_is_integer) .none kV2 dc2 pm2 an2 cd2 ct2), sl2⟩) (c2 : PySem.W.codeIn K cd2 "is_integer" = true) (k2 : PySem.W.keepIn K (.ref f2) = true)
    (p3 : PySem.W.nsIn K mainGlobals "common" = some (some (.ref f3))) (l3 : K.lookup f3 = some ⟨oc3, od3, .func (PySem.W.fnOf "common" "common" (defArgs s_common) (defBody s_common) (defScope s_common) .none kV3 dc3 pm3 an3 cd3 ct3), sl3⟩) (c3 : PySem.W.codeIn K cd3 "common" = true) (k3 : PySem.W.keepIn K (.ref f3) = true)
    (p4 : PySem.W.nsIn K mainGlobals "is_ratio" = some (some (.ref f4))) (l4 : K.lookup f4 = some ⟨oc4, od4, .func (PySem.W.fnOf "is_ratio" "is_ratio" (defArgs s_is_ratio) (defBody s_is_ratio) (defScope s_is_ratio) .none kV4 dc4 pm4 an4 cd4 ct4), sl4⟩) (c4 : PySem.W.codeIn K cd4 "is_ratio" = true) (k4 : PySem.W.keepIn K (.ref f4) = true)
    (p5 : PySem.W.nsIn K mainGlobals "is_span" = some (some (.ref f5))) (l5 : K.lookup f5 = some ⟨oc5, od5, .func (PySem.W.fnOf "is_span" "is_span" (defArgs s_is_span) (defBody s_is_span) (defScope s_is_span) .none kV5 dc5 pm5 an5 cd5 ct5), sl5⟩) (c5 : PySem.W.codeIn K cd5 "is_span" = true) (k5 : PySem.W.keepIn K (.ref f5) = true)
    (p6 : PySem.W.nsIn K mainGlobals "is_cuts" = some (some (.ref f6))) (l6 : K.lookup f6 = some ⟨oc6, od6, .func (PySem.W.fnOf "is_cuts" "is_cuts" (defArgs s_is_cuts) (defBody s_is_cuts) (defScope s_is_cuts) .none kV6 dc6 pm6 an6 cd6 ct6), sl6⟩) (c6 : PySem.W.codeIn K cd6 "is_cuts" = true) (k6 : PySem.W.keepIn K (.ref f6) = true)
    (p7 : PySem.W.nsIn K mainGlobals "_law_take" = some (some (.ref f7))) (l7 : K.lookup f7 = some ⟨oc7, od7, .func (PySem.W.fnOf "_law_take" "_law_take" (defArgs s_u_law_take) (defBody s_u_law_take) (defScope s_u_law_take) .none kV7 dc7 pm7 an7 cd7 ct7), sl7⟩) (c7 : PySem.W.codeIn K cd7 "_law_take" = true) (k7 : PySem.W.keepIn K (.ref f7) = true)
    (p8 : PySem.W.nsIn K mainGlobals "_law_drawn_grain" = some (some (.ref f8))) (l8 : K.lookup f8 = some ⟨oc8, od8, .func (PySem.W.fnOf "_law_drawn_grain" "_law_drawn_grain" (defArgs s_u_law_drawn_grain) (defBody s_u_law_drawn_grain) (defScope s_u_law_drawn_grain) .none kV8 dc8 pm8 an8 cd8 ct8), sl8⟩) (c8 : PySem.W.codeIn K cd8 "_law_drawn_grain" = true) (k8 : PySem.W.keepIn K (.ref f8) = true)
    (p9 : PySem.W.nsIn K mainGlobals "_law_part" = some (some (.ref f9))) (l9 : K.lookup f9 = some ⟨oc9, od9, .func (PySem.W.fnOf "_law_part" "_law_part" (defArgs s_u_law_part) (defBody s_u_law_part) (defScope s_u_law_part) .none kV9 dc9 pm9 an9 cd9 ct9), sl9⟩) (c9 : PySem.W.codeIn K cd9 "_law_part" = true) (k9 : PySem.W.keepIn K (.ref f9) = true)
    (p10 : PySem.W.nsIn K mainGlobals "_law_lowest" = some (some (.ref f10))) (l10 : K.lookup f10 = some ⟨oc10, od10, .func (PySem.W.fnOf "_law_lowest" "_law_lowest" (defArgs s_u_law_lowest) (defBody s_u_law_lowest) (defScope s_u_law_lowest) .none kV10 dc10 pm10 an10 cd10 ct10), sl10⟩) (c10 : PySem.W.codeIn K cd10 "_law_lowest" = true) (k10 : PySem.W.keepIn K (.ref f10) = true)
    (p11 : PySem.W.nsIn K mainGlobals "_law_form" = some (some (.ref f11))) (l11 : K.lookup f11 = some ⟨oc11, od11, .func (PySem.W.fnOf "_law_form" "_law_form" (defArgs s_u_law_form) (defBody s_u_law_form) (defScope s_u_law_form) .none kV11 dc11 pm11 an11 cd11 ct11), sl11⟩) (c11 : PySem.W.codeIn K cd11 "_law_form" = true) (k11 : PySem.W.keepIn K (.ref f11) = true)
    (p12 : PySem.W.nsIn K mainGlobals "_law_units" = some (some (.ref f12))) (l12 : K.lookup f12 = some ⟨oc12, od12, .func (PySem.W.fnOf "_law_units" "_law_units" (defArgs s_u_law_units) (defBody s_u_law_units) (defScope s_u_law_units) .none kV12 dc12 pm12 an12 cd12 ct12), sl12⟩) (c12 : PySem.W.codeIn K cd12 "_law_units" = true) (k12 : PySem.W.keepIn K (.ref f12) = true)
    (p13 : PySem.W.nsIn K mainGlobals "_law_odd" = some (some (.ref f13))) (l13 : K.lookup f13 = some ⟨oc13, od13, .func (PySem.W.fnOf "_law_odd" "_law_odd" (defArgs s_u_law_odd) (defBody s_u_law_odd) (defScope s_u_law_odd) .none kV13 dc13 pm13 an13 cd13 ct13), sl13⟩) (c13 : PySem.W.codeIn K cd13 "_law_odd" = true) (k13 : PySem.W.keepIn K (.ref f13) = true)
    (p14 : PySem.W.nsIn K mainGlobals "_law_end" = some (some (.ref f14))) (l14 : K.lookup f14 = some ⟨oc14, od14, .func (PySem.W.fnOf "_law_end" "_law_end" (defArgs s_u_law_end) (defBody s_u_law_end) (defScope s_u_law_end) .none kV14 dc14 pm14 an14 cd14 ct14), sl14⟩) (c14 : PySem.W.codeIn K cd14 "_law_end" = true) (k14 : PySem.W.keepIn K (.ref f14) = true)
    (p15 : PySem.W.nsIn K mainGlobals "_law_changed" = some (some (.ref f15))) (l15 : K.lookup f15 = some ⟨oc15, od15, .func (PySem.W.fnOf "_law_changed" "_law_changed" (defArgs s_u_law_changed) (defBody s_u_law_changed) (defScope s_u_law_changed) .none kV15 dc15 pm15 an15 cd15 ct15), sl15⟩) (c15 : PySem.W.codeIn K cd15 "_law_changed" = true) (k15 : PySem.W.keepIn K (.ref f15) = true)
    (p16 : PySem.W.nsIn K mainGlobals "_law_is_ratio" = some (some (.ref f16))) (l16 : K.lookup f16 = some ⟨oc16, od16, .func (PySem.W.fnOf "_law_is_ratio" "_law_is_ratio" (defArgs s_u_law_is_ratio) (defBody s_u_law_is_ratio) (defScope s_u_law_is_ratio) .none kV16 dc16 pm16 an16 cd16 ct16), sl16⟩) (c16 : PySem.W.codeIn K cd16 "_law_is_ratio" = true) (k16 : PySem.W.keepIn K (.ref f16) = true)
    (p17 : PySem.W.nsIn K mainGlobals "_law_is_span" = some (some (.ref f17))) (l17 : K.lookup f17 = some ⟨oc17, od17, .func (PySem.W.fnOf "_law_is_span" "_law_is_span" (defArgs s_u_law_is_span) (defBody s_u_law_is_span) (defScope s_u_law_is_span) .none kV17 dc17 pm17 an17 cd17 ct17), sl17⟩) (c17 : PySem.W.codeIn K cd17 "_law_is_span" = true) (k17 : PySem.W.keepIn K (.ref f17) = true)
    (p18 : PySem.W.nsIn K mainGlobals "_law_is_set" = some (some (.ref f18))) (l18 : K.lookup f18 = some ⟨oc18, od18, .func (PySem.W.fnOf "_law_is_set" "_law_is_set" (defArgs s_u_law_is_set) (defBody s_u_law_is_set) (defScope s_u_law_is_set) .none kV18 dc18 pm18 an18 cd18 ct18), sl18⟩) (c18 : PySem.W.codeIn K cd18 "_law_is_set" = true) (k18 : PySem.W.keepIn K (.ref f18) = true)
    (p19 : PySem.W.nsIn K mainGlobals "law" = some (some (.ref f19))) (l19 : K.lookup f19 = some ⟨oc19, od19, .func (PySem.W.fnOf "law" "law" (defArgs s_law) (defBody s_law) (defScope s_law) .none kV19 dc19 pm19 an19 cd19 ct19), sl19⟩) (c19 : PySem.W.codeIn K cd19 "law" = true) (k19 : PySem.W.keepIn K (.ref f19) = true)
    (z_abs : PySem.W.nsIn K mainGlobals "abs" = some none)
    (z_all : PySem.W.nsIn K mainGlobals "all" = some none)
    (z_bool : PySem.W.nsIn K mainGlobals "bool" = some none)
    (z_int : PySem.W.nsIn K mainGlobals "int" = some none)
    (z_isinstance : PySem.W.nsIn K mainGlobals "isinstance" = some none)
    (z_len : PySem.W.nsIn K mainGlobals "len" = some none)
    (z_list : PySem.W.nsIn K mainGlobals "list" = some none)
    (z_max : PySem.W.nsIn K mainGlobals "max" = some none)
    (z_min : PySem.W.nsIn K mainGlobals "min" = some none)
    (z_range : PySem.W.nsIn K mainGlobals "range" = some none)
    (z_repr : PySem.W.nsIn K mainGlobals "repr" = some none)
    (z_tuple : PySem.W.nsIn K mainGlobals "tuple" = some none)
    (z_zip : PySem.W.nsIn K mainGlobals "zip" = some none)
    {r_END : Addr} {s0_END s1_END : Tok} {dd_END : Option Addr} {n_END : Nat} {sl_END : Array (Option Value)} (q_END : PySem.W.nsIn K mainGlobals "END" = some (some (.ref r_END))) (ql_END : K.lookup r_END = some ⟨.type "tuple", dd_END, .seq #[.int 1 s0_END, .int 1 s1_END] n_END, sl_END⟩) :
    ∃ fd : FuncData, (∀ (s : Shared) (v : Value), BindsTo s fd ⟨[v], []⟩ [("script", v)]) ∧ ∀ base : Heap, K.In base → base.Ns mainGlobals mg → LawOk l.prog w K mg base fa fd := by
  have e := hfa.symm.trans (PySem.W.mg_of X G p19)
  cases e
  have F0 := fun_mk (st := s_u_law_bag) l0 c0 k0
  have F1 := fun_mk (st := s_is_less) l1 c1 k1
  have F2 := fun_mk (st := s_is_integer) l2 c2 k2
  have F3 := fun_mk (st := s_common) l3 c3 k3
  have F4 := fun_mk (st := s_is_ratio) l4 c4 k4
  have F5 := fun_mk (st := s_is_span) l5 c5 k5
  have F6 := fun_mk (st := s_is_cuts) l6 c6 k6
  have F7 := fun_mk (st := s_u_law_take) l7 c7 k7
  have F8 := fun_mk (st := s_u_law_drawn_grain) l8 c8 k8
  have F9 := fun_mk (st := s_u_law_part) l9 c9 k9
  have F10 := fun_mk (st := s_u_law_lowest) l10 c10 k10
  have F11 := fun_mk (st := s_u_law_form) l11 c11 k11
  have F12 := fun_mk (st := s_u_law_units) l12 c12 k12
  have F13 := fun_mk (st := s_u_law_odd) l13 c13 k13
  have F14 := fun_mk (st := s_u_law_end) l14 c14 k14
  have F15 := fun_mk (st := s_u_law_changed) l15 c15 k15
  have F16 := fun_mk (st := s_u_law_is_ratio) l16 c16 k16
  have F17 := fun_mk (st := s_u_law_is_span) l17 c17 k17
  have F18 := fun_mk (st := s_u_law_is_set) l18 c18 k18
  have F19 := fun_mk (st := s_law) l19 c19 k19
  have T : Top K w mg _ _ _ _ _ _ _ _ _ _ _ _ _ _ _ _ _ _ _ _ _ _ _ _ _ _ _ _ _ _ _ _ _ _ _ _ _ _ _ _ := ⟨F0, PySem.W.mg_of X G p0, F0.binds (ps := ["script", "at"]) (fun _ _ _ _ _ _ us hl => match us, hl with | [_, _], _ => rfl), F1, PySem.W.mg_of X G p1, F1.binds (ps := ["one", "other"]) (fun _ _ _ _ _ _ us hl => match us, hl with | [_, _], _ => rfl), F2, PySem.W.mg_of X G p2, F2.binds (ps := ["thing"]) (fun _ _ _ _ _ _ us hl => match us, hl with | [_], _ => rfl), F3, PySem.W.mg_of X G p3, F3.binds (ps := ["one", "other"]) (fun _ _ _ _ _ _ us hl => match us, hl with | [_, _], _ => rfl), F4, PySem.W.mg_of X G p4, F4.binds (ps := ["thing"]) (fun _ _ _ _ _ _ us hl => match us, hl with | [_], _ => rfl), F5, PySem.W.mg_of X G p5, F5.binds (ps := ["thing"]) (fun _ _ _ _ _ _ us hl => match us, hl with | [_], _ => rfl), F6, PySem.W.mg_of X G p6, F6.binds (ps := ["thing"]) (fun _ _ _ _ _ _ us hl => match us, hl with | [_], _ => rfl), F7, PySem.W.mg_of X G p7, F7.binds (ps := ["bag", "size"]) (fun _ _ _ _ _ _ us hl => match us, hl with | [_, _], _ => rfl), F8, PySem.W.mg_of X G p8, F8.binds (ps := ["bag"]) (fun _ _ _ _ _ _ us hl => match us, hl with | [_], _ => rfl), F9, PySem.W.mg_of X G p9, F9.binds (ps := ["one", "other"]) (fun _ _ _ _ _ _ us hl => match us, hl with | [_, _], _ => rfl), F10, PySem.W.mg_of X G p10, F10.binds (ps := ["top", "under"]) (fun _ _ _ _ _ _ us hl => match us, hl with | [_, _], _ => rfl), F11, PySem.W.mg_of X G p11, F11.binds (ps := ["units", "grain"]) (fun _ _ _ _ _ _ us hl => match us, hl with | [_, _], _ => rfl), F12, PySem.W.mg_of X G p12, F12.binds (ps := ["bag", "grain"]) (fun _ _ _ _ _ _ us hl => match us, hl with | [_, _], _ => rfl), F13, PySem.W.mg_of X G p13, F13.binds (ps := ["bag"]) (fun _ _ _ _ _ _ us hl => match us, hl with | [_], _ => rfl), F14, PySem.W.mg_of X G p14, F14.binds (ps := ["bag", "end"]) (fun _ _ _ _ _ _ us hl => match us, hl with | [_, _], _ => rfl), F15, PySem.W.mg_of X G p15, F15.binds (ps := ["bag", "some"]) (fun _ _ _ _ _ _ us hl => match us, hl with | [_, _], _ => rfl), F16, PySem.W.mg_of X G p16, F16.binds (ps := ["thing"]) (fun _ _ _ _ _ _ us hl => match us, hl with | [_], _ => rfl), F17, PySem.W.mg_of X G p17, F17.binds (ps := ["thing"]) (fun _ _ _ _ _ _ us hl => match us, hl with | [_], _ => rfl), F18, PySem.W.mg_of X G p18, F18.binds (ps := ["thing"]) (fun _ _ _ _ _ _ us hl => match us, hl with | [_], _ => rfl), F19, PySem.W.mg_of X G p19, F19.binds (ps := ["script"]) (fun _ _ _ _ _ _ us hl => match us, hl with | [_], _ => rfl), PySem.W.mg_none_of X G z_abs, PySem.W.mg_none_of X G z_all, PySem.W.mg_none_of X G z_bool, PySem.W.mg_none_of X G z_int, PySem.W.mg_none_of X G z_isinstance, PySem.W.mg_none_of X G z_len, PySem.W.mg_none_of X G z_list, PySem.W.mg_none_of X G z_max, PySem.W.mg_none_of X G z_min, PySem.W.mg_none_of X G z_range, PySem.W.mg_none_of X G z_repr, PySem.W.mg_none_of X G z_tuple, PySem.W.mg_none_of X G z_zip, cst_pair (PySem.W.mg_of X G q_END) ql_END⟩
  refine ⟨PySem.W.fnOf "law" "law" (defArgs s_law) (defBody s_law) (defScope s_law) .none kV19 dc19 pm19 an19 cd19 ct19, fun s v => .of_eq rfl, fun base _ _ => ?_⟩
  have G_u_law_bag := ok_u_law_bag (P := l.prog) (w := w) (base := base) T 
  have G_is_less := ok_is_less (P := l.prog) (w := w) (base := base) T 
  have G_is_integer := ok_is_integer (P := l.prog) (w := w) (base := base) T 
  have G_common := ok_common (P := l.prog) (w := w) (base := base) T 
  have G_is_ratio := ok_is_ratio (P := l.prog) (w := w) (base := base) T G_is_integer G_common
  have G_is_span := ok_is_span (P := l.prog) (w := w) (base := base) T G_is_less G_is_ratio
  have G_is_cuts := ok_is_cuts (P := l.prog) (w := w) (base := base) T G_is_less G_is_span
  have G_u_law_take := ok_u_law_take (P := l.prog) (w := w) (base := base) T 
  have G_u_law_drawn_grain := ok_u_law_drawn_grain (P := l.prog) (w := w) (base := base) T G_u_law_take
  have G_u_law_part := ok_u_law_part (P := l.prog) (w := w) (base := base) T 
  have G_u_law_lowest := ok_u_law_lowest (P := l.prog) (w := w) (base := base) T G_u_law_part
  have G_u_law_form := ok_u_law_form (P := l.prog) (w := w) (base := base) T G_u_law_lowest
  have G_u_law_units := ok_u_law_units (P := l.prog) (w := w) (base := base) T G_u_law_take
  have G_u_law_odd := ok_u_law_odd (P := l.prog) (w := w) (base := base) T G_u_law_take
  have G_u_law_end := ok_u_law_end (P := l.prog) (w := w) (base := base) T G_u_law_take
  have G_u_law_changed := ok_u_law_changed (P := l.prog) (w := w) (base := base) T G_u_law_odd G_u_law_take G_u_law_end
  have G_u_law_is_ratio := ok_u_law_is_ratio (P := l.prog) (w := w) (base := base) T G_u_law_part
  have G_u_law_is_span := ok_u_law_is_span (P := l.prog) (w := w) (base := base) T G_u_law_is_ratio
  have G_u_law_is_set := ok_u_law_is_set (P := l.prog) (w := w) (base := base) T G_u_law_is_span
  exact ok_law T G_u_law_bag G_is_cuts G_u_law_drawn_grain G_u_law_form G_u_law_units G_u_law_changed G_u_law_odd G_u_law_is_set
end Claim
open PySem PySem.W PyProof.Rows
set_option maxHeartbeats 0 in
theorem PySem.Challenge.cw_onecut_k07_sets_of_cuts_known_holds : PySem.Challenge.rw_onecut_k07_sets_of_cuts_known.Holds := by
  w_on; o_law; k_head; (case hw => w_witness2)
  k_fill
  refine Pu.walk_law (l := PySem.Challenge.rw_onecut_k07_sets_of_cuts_known) (n := 63) rfl (by decide) rfl (fun w h Y => PySem.W.kIn_of Y) ?F
  case F =>
    intro w mg fa h KX G hmg
    refine' Claim.all_mk KX G hmg ?p0 ?l0 ?c0 ?k0 ?p1 ?l1 ?c1 ?k1 ?p2 ?l2 ?c2 ?k2 ?p3 ?l3 ?c3 ?k3 ?p4 ?l4 ?c4 ?k4 ?p5 ?l5 ?c5 ?k5 ?p6 ?l6 ?c6 ?k6 ?p7 ?l7 ?c7 ?k7 ?p8 ?l8 ?c8 ?k8 ?p9 ?l9 ?c9 ?k9 ?p10 ?l10 ?c10 ?k10 ?p11 ?l11 ?c11 ?k11 ?p12 ?l12 ?c12 ?k12 ?p13 ?l13 ?c13 ?k13 ?p14 ?l14 ?c14 ?k14 ?p15 ?l15 ?c15 ?k15 ?p16 ?l16 ?c16 ?k16 ?p17 ?l17 ?c17 ?k17 ?p18 ?l18 ?c18 ?k18 ?p19 ?l19 ?c19 ?k19 ?z_abs ?z_all ?z_bool ?z_int ?z_isinstance ?z_len ?z_list ?z_max ?z_min ?z_range ?z_repr ?z_tuple ?z_zip ?q_END ?ql_END
    (case p0 => k_is)
    (case l0 => k_is)
    (case c0 => k_is)
    (case k0 => k_is)
    (case p1 => k_is)
    (case l1 => k_is)
    (case c1 => k_is)
    (case k1 => k_is)
    (case p2 => k_is)
    (case l2 => k_is)
    (case c2 => k_is)
    (case k2 => k_is)
    (case p3 => k_is)
    (case l3 => k_is)
    (case c3 => k_is)
    (case k3 => k_is)
    (case p4 => k_is)
    (case l4 => k_is)
    (case c4 => k_is)
    (case k4 => k_is)
    (case p5 => k_is)
    (case l5 => k_is)
    (case c5 => k_is)
    (case k5 => k_is)
    (case p6 => k_is)
    (case l6 => k_is)
    (case c6 => k_is)
    (case k6 => k_is)
    (case p7 => k_is)
    (case l7 => k_is)
    (case c7 => k_is)
    (case k7 => k_is)
    (case p8 => k_is)
    (case l8 => k_is)
    (case c8 => k_is)
    (case k8 => k_is)
    (case p9 => k_is)
    (case l9 => k_is)
    (case c9 => k_is)
    (case k9 => k_is)
    (case p10 => k_is)
    (case l10 => k_is)
    (case c10 => k_is)
    (case k10 => k_is)
    (case p11 => k_is)
    (case l11 => k_is)
    (case c11 => k_is)
    (case k11 => k_is)
    (case p12 => k_is)
    (case l12 => k_is)
    (case c12 => k_is)
    (case k12 => k_is)
    (case p13 => k_is)
    (case l13 => k_is)
    (case c13 => k_is)
    (case k13 => k_is)
    (case p14 => k_is)
    (case l14 => k_is)
    (case c14 => k_is)
    (case k14 => k_is)
    (case p15 => k_is)
    (case l15 => k_is)
    (case c15 => k_is)
    (case k15 => k_is)
    (case p16 => k_is)
    (case l16 => k_is)
    (case c16 => k_is)
    (case k16 => k_is)
    (case p17 => k_is)
    (case l17 => k_is)
    (case c17 => k_is)
    (case k17 => k_is)
    (case p18 => k_is)
    (case l18 => k_is)
    (case c18 => k_is)
    (case k18 => k_is)
    (case p19 => k_is)
    (case l19 => k_is)
    (case c19 => k_is)
    (case k19 => k_is)
    (case z_abs => k_is)
    (case z_all => k_is)
    (case z_bool => k_is)
    (case z_int => k_is)
    (case z_isinstance => k_is)
    (case z_len => k_is)
    (case z_list => k_is)
    (case z_max => k_is)
    (case z_min => k_is)
    (case z_range => k_is)
    (case z_repr => k_is)
    (case z_tuple => k_is)
    (case z_zip => k_is)
    (case q_END => k_is)
    (case ql_END => k_is)

