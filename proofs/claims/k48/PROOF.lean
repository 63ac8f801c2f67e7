import PyProof.Rows.All
import Wide.All
import OpenK.AllK
import Wide.FinOn
import HandS.ForMost
import HandS.Wide
import HandS.IsInst
import HandS.Style
import HandS.Walk
import HandS.WideBits
import HandS.Ends
import PyProof.ReprReads
import PyProof.ReprRoads
import PyProof.MaxThree
import HandS.TupLe
import HandS.NoneIn
import HandS.RaiseMore
import HandS.SortInts
import HandS.SortKw
import KE.DataMinMax
import HandS.WordsDict
import HandS.DictTup
import HandS.SortOrd
import HandS.ListItems
import HandS.More
import HandS.SetKeys
import HandS.Dict
import HandS.Flow
import PySem.Challenge.RW_onecut_k48_whole_every_telling_is_a_cut
set_option Elab.async false
set_option autoImplicit false
set_option linter.all false
set_option maxRecDepth 100000
set_option maxHeartbeats 8000000
set_option autoImplicit false
/-! Pu: values without addresses (PyData and cells) over the abstract heap; every rule of the layer L2 once more over these values. -/
namespace Pu
open PySem PySem.Spec PyProof.Rows L2

/-! ### what a value without addresses is, on a heap -/
/-- a list that stays: it is locked, or an object of the written part -/
def SqF (K : PySem.W.Frag) (H : Hp) (a : Addr) (vs : List V) : Prop := (∃ o, H a = some (.frz o (.lst vs))) ∨
  ∃ (its : List Value) (n : Nat), K.lookup a = some { cls := .type "list", data := .seq its.toArray n } ∧ its.length ≤ sizeLine ∧ Vals vs its
/-- a list that is read -/
def RdL (K : PySem.W.Frag) (H : Hp) (a : Addr) (vs : List V) : Prop := H a = some (.lst vs) ∨ SqF K H a vs
theorem SqF.seq {K : PySem.W.Frag} {H : Hp} {a : Addr} {vs : List V} (h : SqF K H a vs) : SqL K H a vs := by
  rcases h with ⟨o, h⟩ | ⟨its, n, h, hz, r⟩
  · exact .inl (.inr ⟨o, h⟩)
  · exact .inr ⟨_, its.toArray, n, h, rfl, rfl, rfl, by simpa using hz, by simpa using r⟩
theorem RdL.seq {K : PySem.W.Frag} {H : Hp} {a : Addr} {vs : List V} (h : RdL K H a vs) : SqL K H a vs := by
  rcases h with h | h
  · exact .of h
  · exact h.seq
mutual
def Rep (K : PySem.W.Frag) (H : Hp) : PyData → V → Prop
  | .none, v => v = .non
  | .bool b, v => v = .bl b
  | .int i, v => v = .int i
  | .str s, v => v = .str s
  | .list xs, v => ∃ a vs, v = .ref a ∧ SqF K H a vs ∧ Reps K H xs vs
  | .tuple xs, v => ∃ a vs, v = .ref a ∧ SqT K H a vs ∧ Reps K H xs vs
  | .dict kvs, v => ∃ (a : Addr) (ps : List (Int × Int)), v = .ref a ∧ (∃ o, H a = some (.frz o (.dK (ps.map fun p => (Sum.inl p.1, V.int p.2))))) ∧ kvs = ps.map fun p => (.int p.1, .int p.2)
def Reps (K : PySem.W.Frag) (H : Hp) : List PyData → List V → Prop
  | [], vs => vs = []
  | x :: xs, vs => ∃ v ws, vs = v :: ws ∧ Rep K H x v ∧ Reps K H xs ws
end
/-- tuples and locked things stay -/
structure Ge (H H' : Hp) : Prop where
  tup : ∀ b xs, H b = some (.tup xs) → H' b = some (.tup xs)
  frz : ∀ b o u, H b = some (.frz o u) → H' b = some (.frz o u)
theorem Ge.refl (H : Hp) : Ge H H := ⟨fun _ _ h => h, fun _ _ _ h => h⟩
theorem Ge.trans {H H1 H2 : Hp} (a : Ge H H1) (b : Ge H1 H2) : Ge H H2 := ⟨fun c xs h => b.tup c xs (a.tup c xs h), fun c o u h => b.frz c o u (a.frz c o u h)⟩
theorem Ge.of_same {H H' : Hp} (s : Same H H') : Ge H H' := ⟨fun b _ h => s b _ h, fun b _ _ h => s b _ h⟩
theorem same_new {H : Hp} {p : Addr} {o : HO} (h : H p = none) : Same H (upd H p o) := fun b x e => by
  rw [upd_ne (ne_of_none e h)]; exact e
theorem Ge.new {H : Hp} {p : Addr} {o : HO} (h : H p = none) : Ge H (upd H p o) := .of_same (same_new h)
theorem Ge.put {H : Hp} {p : Addr} {o : HO} {xs : List V} (h : H p = some (.lst xs)) : Ge H (upd H p o) :=
  ⟨fun b ys e => by rw [upd_ne (fun z => by rw [z, h] at e; cases e)]; exact e, fun b o' u e => by rw [upd_ne (fun z => by rw [z, h] at e; cases e)]; exact e⟩
section
variable {K : PySem.W.Frag} {H H' : Hp}
theorem SqF.mono {a : Addr} {vs : List V} (g : Ge H H') (h : SqF K H a vs) : SqF K H' a vs := by
  rcases h with ⟨o, h⟩ | h
  · exact .inl ⟨o, g.frz _ _ _ h⟩
  · exact .inr h
theorem sqT_mono {a : Addr} {vs : List V} (g : Ge H H') (h : SqT K H a vs) : SqT K H' a vs := by
  rcases h with (h | ⟨o, h⟩) | h
  · exact .inl (.inl (g.tup _ _ h))
  · exact .inl (.inr ⟨o, g.frz _ _ _ h⟩)
  · exact .inr h
mutual
theorem Rep.mono (g : Ge H H') : ∀ (d : PyData) (v : V), Rep K H d v → Rep K H' d v
  | .none, _, h => h
  | .bool _, _, h => h
  | .int _, _, h => h
  | .str _, _, h => h
  | .list xs, _, ⟨a, vs, e, s, r⟩ => ⟨a, vs, e, s.mono g, Reps.mono g xs vs r⟩
  | .tuple xs, _, ⟨a, vs, e, s, r⟩ => ⟨a, vs, e, sqT_mono g s, Reps.mono g xs vs r⟩
  | .dict _, _, ⟨a, ps, e, ⟨o, h⟩, k⟩ => ⟨a, ps, e, ⟨o, g.frz _ _ _ h⟩, k⟩
theorem Reps.mono (g : Ge H H') : ∀ (ds : List PyData) (vs : List V), Reps K H ds vs → Reps K H' ds vs
  | [], _, h => h
  | x :: xs, _, ⟨v, ws, e, r, t⟩ => ⟨v, ws, e, Rep.mono g x v r, Reps.mono g xs ws t⟩
end
theorem Reps.length : ∀ {ds : List PyData} {vs : List V}, Reps K H ds vs → ds.length = vs.length
  | [], _, h => by rw [show _ = [] from h]; rfl
  | _ :: _, _, ⟨_, _, e, _, t⟩ => by rw [e, List.length_cons, List.length_cons, Reps.length t]
theorem Reps.get : ∀ {ds : List PyData} {vs : List V} {i : Nat} {d : PyData}, Reps K H ds vs → ds[i]? = some d → ∃ v, vs[i]? = some v ∧ Rep K H d v
  | [], _, _, _, _, e => by simp at e
  | _ :: _, _, 0, _, ⟨v, ws, e, r, _⟩, h => by
    simp at h; subst h; subst e; exact ⟨v, rfl, r⟩
  | _ :: xs, _, i + 1, d, ⟨v, ws, e, _, t⟩, h => by
    subst e
    obtain ⟨u, h1, h2⟩ := Reps.get (i := i) t (by simpa using h)
    exact ⟨u, by simpa using h1, h2⟩
theorem Reps.set {d : PyData} {v : V} (r : Rep K H d v) : ∀ {ds : List PyData} {vs : List V} (i : Nat), Reps K H ds vs → Reps K H (ds.set i d) (vs.set i v)
  | [], _, _, h => by rw [show _ = [] from h]; rfl
  | _ :: _, _, 0, ⟨_, ws, e, _, t⟩ => by subst e; exact ⟨v, ws, rfl, r, t⟩
  | _ :: _, _, i + 1, ⟨u, ws, e, q, t⟩ => by subst e; exact ⟨u, ws.set i v, rfl, q, Reps.set r i t⟩
theorem Reps.append : ∀ {ds es : List PyData} {vs ws : List V}, Reps K H ds vs → Reps K H es ws → Reps K H (ds ++ es) (vs ++ ws)
  | [], _, _, _, h, t => by rw [show _ = [] from h]; exact t
  | _ :: _, _, _, ws, ⟨v, us, e, r, q⟩, t => by subst e; exact ⟨v, us ++ ws, rfl, r, Reps.append q t⟩
theorem Reps.take : ∀ {ds : List PyData} {vs : List V} (n : Nat), Reps K H ds vs → Reps K H (ds.take n) (vs.take n)
  | ds, vs, 0, _ => by simp [Reps]
  | [], _, _ + 1, h => by rw [show _ = [] from h]; simp [Reps]
  | _ :: _, _, n + 1, ⟨v, us, e, r, q⟩ => by subst e; exact ⟨v, us.take n, rfl, r, Reps.take n q⟩
theorem Reps.drop : ∀ {ds : List PyData} {vs : List V} (n : Nat), Reps K H ds vs → Reps K H (ds.drop n) (vs.drop n)
  | ds, vs, 0, h => h
  | [], _, _ + 1, h => by rw [show _ = [] from h]; simp [Reps]
  | _ :: _, _, n + 1, ⟨v, us, e, r, q⟩ => by subst e; exact Reps.drop n q
theorem Reps.reverse : ∀ {ds : List PyData} {vs : List V}, Reps K H ds vs → Reps K H ds.reverse vs.reverse
  | [], _, h => by rw [show _ = [] from h]; simp [Reps]
  | x :: xs, _, ⟨v, us, e, r, q⟩ => by
    subst e
    rw [List.reverse_cons, List.reverse_cons]
    exact (Reps.reverse q).append ⟨v, [], rfl, r, rfl⟩
theorem Reps.one {d : PyData} {v : V} (r : Rep K H d v) : Reps K H [d] [v] := ⟨v, [], rfl, r, rfl⟩
theorem Reps.ints : ∀ {ns : List Int} {vs : List V}, Reps K H (ns.map PyData.int) vs → vs = ns.map V.int
  | [], _, h => h
  | n :: ns, _, ⟨v, us, e, r, q⟩ => by
    subst e
    rw [Reps.ints q, show v = V.int n from r]; rfl
theorem Reps.of_ints : ∀ {ns : List Int}, Reps K H (ns.map PyData.int) (ns.map V.int)
  | [] => rfl
  | _ :: _ => ⟨_, _, rfl, rfl, Reps.of_ints⟩
theorem Reps.bools : ∀ {ns : List Bool} {vs : List V}, Reps K H (ns.map PyData.bool) vs → vs = ns.map V.bl
  | [], _, h => h
  | n :: ns, _, ⟨v, us, e, r, q⟩ => by
    subst e
    rw [Reps.bools q, show v = V.bl n from r]; rfl
end

/-! ### values, cells, frames -/
/-- a value: data, or the cell (a list that may change) at a place of the store -/
inductive PV where
  | d (x : PyData) | cel (i : Nat)
/-- a cell: a list that may change; one that may be read alone; a ledger (its dict's address, the coming number); a dict of items, and its address -/
inductive Cell where
  | lst (xs : List PyData) | frz (xs : List PyData) | led (d : Addr) (n : Int) | dic (d : Addr) (its : List (Int × PyData)) | fdi (ps : List (Int × Int))
abbrev Sto := List Cell
abbrev Rho := List (Option PV)
/-! the functions that the readings compute with: all of them reducible -/
@[reducible] def setR : Rho → Nat → Option PV → Rho
  | [], _, _ => []
  | _ :: r, 0, x => x :: r
  | y :: r, i + 1, x => y :: setR r i x
@[reducible] def snocS : Sto → Cell → Sto
  | [], c => [c]
  | y :: r, c => y :: snocS r c
@[reducible] def lenS : Sto → Nat
  | [] => .zero
  | _ :: r => .succ (lenS r)
@[reducible] def setS : Sto → Nat → Cell → Sto
  | [], _, _ => []
  | _ :: r, 0, x => x :: r
  | y :: r, i + 1, x => y :: setS r i x
@[reducible] def Br (c : Bool) (A B : Prop) : Prop := match c with
  | true => A
  | false => B
@[reducible] def bnot : Bool → Bool
  | true => false
  | false => true
theorem bnot_eq (b : Bool) : bnot b = !b := by cases b <;> rfl
theorem setR_eq : ∀ (ρ : Rho) (i : Nat) (x : Option PV), setR ρ i x = ρ.set i x
  | [], _, _ => by simp [setR]
  | _ :: _, 0, _ => by simp [setR]
  | _ :: r, i + 1, x => by simp [setR, setR_eq r i x]
theorem snocS_eq : ∀ (S : Sto) (x : Cell), snocS S x = S ++ [x]
  | [], _ => rfl
  | y :: r, x => by rw [snocS, snocS_eq r x]; rfl
theorem lenS_eq : ∀ S : Sto, lenS S = S.length
  | [] => rfl
  | _ :: r => by rw [lenS, lenS_eq r]; rfl
theorem setS_eq : ∀ (ρ : Sto) (i : Nat) (x : Cell), setS ρ i x = ρ.set i x
  | [], _, _ => by simp [setS]
  | _ :: _, 0, _ => by simp [setS]
  | _ :: r, i + 1, x => by simp [setS, setS_eq r i x]
theorem brB {c : Bool} {A B : Prop} (h1 : c = true → A) (h2 : c = false → B) : Br c A B := by
  cases c with
  | true => exact h1 rfl
  | false => exact h2 rfl
theorem brT {c : Bool} {A B : Prop} (hc : c = true) (h : A) : Br c A B := by subst hc; exact h
theorem brF {c : Bool} {A B : Prop} (hc : c = false) (h : B) : Br c A B := by subst hc; exact h
/-- a test by a decision -/
theorem brD {p : Prop} [Decidable p] {A B : Prop} (h1 : p → A) (h2 : ¬ p → B) : Br (decide p) A B := brB (fun h => h1 (of_decide_eq_true h)) fun h => h2 (of_decide_eq_false h)
theorem brN {p : Prop} [Decidable p] {A B : Prop} (h1 : ¬ p → A) (h2 : p → B) : Br (bnot (decide p)) A B := by
  by_cases h : p
  · exact brF (by rw [decide_eq_true h]) (h2 h)
  · exact brT (by rw [decide_eq_false h]) (h1 h)
def CellR (K : PySem.W.Frag) (H : Hp) : Cell → Addr → Prop
  | .lst xs, a => ∃ vs, H a = some (.lst vs) ∧ Reps K H xs vs
  | .frz xs, a => ∃ o vs, H a = some (.frz o (.lst vs)) ∧ Reps K H xs vs
  | .led d n, a => ∃ C dx, H a = some (.ins C dx [("present", .ref d), ("coming", .int n)]) ∧ PySem.W.nsIn K mainGlobals "Ledger" = some (some (.ref C))
  | .dic d its, a => a = d ∧ ∃ kvs, H a = some (.dK kvs) ∧ Paired (fun (p : Int × PyData) (q : L2.Key × V) => q.1 = Sum.inl p.1 ∧ Rep K H p.2 q.2) its kvs ∧ (its.map (·.1)).Nodup
  | .fdi ps, a => ∃ o, H a = some (.frz o (.dK (ps.map fun p => (Sum.inl p.1, V.int p.2))))
/-- what is tracked at a place where the heap is as it was -/
theorem CellR.move {K : PySem.W.Frag} {H H' : Hp} {x : Cell} {a : Addr} (h : CellR K H x a) (k : ∀ o, H a = some o → H' a = some o) (g : Ge H H') : CellR K H' x a := by
  cases x with
  | lst xs => obtain ⟨vs, e, r⟩ := h; exact ⟨vs, k _ e, Reps.mono g _ _ r⟩
  | frz xs => obtain ⟨o, vs, e, r⟩ := h; exact ⟨o, vs, k _ e, Reps.mono g _ _ r⟩
  | led d n => obtain ⟨C, dx, e, r⟩ := h; exact ⟨C, dx, k _ e, r⟩
  | fdi ps => obtain ⟨o, e⟩ := h; exact ⟨o, k _ e⟩
  | dic d its =>
    obtain ⟨z, vs, e, r, nd⟩ := h
    have r' : Paired (fun (p : Int × PyData) (q : L2.Key × V) => q.1 = Sum.inl p.1 ∧ Rep K H' p.2 q.2) its vs := by
      clear e nd
      induction r with
      | nil => exact .nil
      | cons q t ih => exact .cons ⟨q.1, Rep.mono g _ _ q.2⟩ ih
    exact ⟨z, vs, k _ e, r', nd⟩
theorem CellR.ob {K : PySem.W.Frag} {H : Hp} {x : Cell} {a : Addr} (h : CellR K H x a) : ∃ o, H a = some o := by
  cases x with
  | lst xs => obtain ⟨vs, e, r⟩ := h; exact ⟨_, e⟩
  | frz xs => obtain ⟨o, vs, e, r⟩ := h; exact ⟨_, e⟩
  | led d n => obtain ⟨C, dx, e, r⟩ := h; exact ⟨_, e⟩
  | dic d its => obtain ⟨z, vs, e, r, nd⟩ := h; exact ⟨_, e⟩
  | fdi ps => obtain ⟨o, e⟩ := h; exact ⟨_, e⟩
def RepP (K : PySem.W.Frag) (H : Hp) (μ : List Addr) : PV → V → Prop
  | .d x, v => Rep K H x v
  | .cel i, v => ∃ a, μ[i]? = some a ∧ v = .ref a
def SlotR (K : PySem.W.Frag) (H : Hp) (μ : List Addr) : Option PV → Option V → Prop
  | some p, some v => RepP K H μ p v
  | some _, none => False
  | none, _ => True
/-- a frame's own: the heap at its entry, what it may change of that -/
structure FP where
  H0 : Hp
  F0 : Addr → Prop
structure Fr (K : PySem.W.Frag) (c : FP) (μ : List Addr) (ρ : Rho) (S : Sto) (σ : L2.St) (H : Hp) : Prop where
  env : Paired (SlotR K H μ) ρ σ
  cel : Paired (CellR K H) S μ
  nd : μ.Nodup
  own : ∀ a ∈ μ, c.F0 a ∨ c.H0 a = none
  keep : ∀ b o, c.H0 b = some o → ¬ c.F0 b → H b = some o
/-- one list begins as the other -/
abbrev Pre (μ μ' : List Addr) : Prop := ∃ r, μ' = μ ++ r
theorem Pre.refl (μ : List Addr) : Pre μ μ := ⟨[], by simp⟩
theorem Pre.trans {a b c : List Addr} (x : Pre a b) (y : Pre b c) : Pre a c := by
  obtain ⟨r, rfl⟩ := x; obtain ⟨q, rfl⟩ := y; exact ⟨r ++ q, by simp⟩
theorem Pre.get {μ μ' : List Addr} (x : Pre μ μ') {i : Nat} {a : Addr} (h : μ[i]? = some a) : μ'[i]? = some a := by
  obtain ⟨r, rfl⟩ := x
  rw [List.getElem?_append_left (List.getElem?_eq_some_iff.mp h).1]; exact h
section
variable {K : PySem.W.Frag} {H H' : Hp} {μ μ' : List Addr}
theorem RepP.mono (g : Ge H H') (p : Pre μ μ') {x : PV} {v : V} (h : RepP K H μ x v) : RepP K H' μ' x v := by
  cases x with
  | d x => exact Rep.mono g x v h
  | cel i =>
    obtain ⟨a, h1, h2⟩ := h
    exact ⟨a, p.get h1, h2⟩
theorem SlotR.mono (g : Ge H H') (p : Pre μ μ') {x : Option PV} {v : Option V} (h : SlotR K H μ x v) : SlotR K H' μ' x v := by
  cases x with
  | none => trivial
  | some x => cases v with
    | none => exact h.elim
    | some v => exact RepP.mono g p h
theorem paired_get {α β : Type} {F : α → β → Prop} : ∀ {xs : List α} {ys : List β} {i : Nat} {x : α}, Paired F xs ys → xs[i]? = some x → ∃ y, ys[i]? = some y ∧ F x y
  | _, _, _, _, .nil, e => by simp at e
  | _, _, 0, _, .cons h _, e => by simp at e; subst e; exact ⟨_, rfl, h⟩
  | _, _, i + 1, _, .cons _ t, e => by
    obtain ⟨y, h1, h2⟩ := paired_get (i := i) t (by simpa using e)
    exact ⟨y, by simpa using h1, h2⟩
theorem paired_set {α β : Type} {F : α → β → Prop} {x : α} {y : β} (r : F x y) : ∀ {xs : List α} {ys : List β} (i : Nat), Paired F xs ys → Paired F (xs.set i x) (ys.set i y)
  | _, _, _, .nil => .nil
  | _, _, 0, .cons _ t => .cons r t
  | _, _, i + 1, .cons q t => .cons q (paired_set r i t)
theorem paired_imp {α β : Type} {F G : α → β → Prop} : ∀ {xs : List α} {ys : List β}, Paired F xs ys → (∀ x y, F x y → G x y) → Paired G xs ys
  | _, _, .nil, _ => .nil
  | _, _, .cons r t, f => .cons (f _ _ r) (paired_imp t f)
theorem paired_at {α β : Type} {F G : α → β → Prop} : ∀ {xs : List α} {ys : List β}, Paired F xs ys → (∀ (i : Nat) x y, xs[i]? = some x → ys[i]? = some y → F x y → G x y) → Paired G xs ys
  | _, _, .nil, _ => .nil
  | _, _, .cons r t, f => .cons (f 0 _ _ rfl rfl r) (paired_at t fun i x y h1 h2 => f (i + 1) x y (by simpa using h1) (by simpa using h2))
theorem paired_len {α β : Type} {F : α → β → Prop} : ∀ {xs : List α} {ys : List β}, Paired F xs ys → xs.length = ys.length
  | _, _, .nil => rfl
  | _, _, .cons _ t => by rw [List.length_cons, List.length_cons, paired_len t]
end
section
variable {K : PySem.W.Frag} {c : FP} {μ : List Addr} {ρ : Rho} {S : Sto} {σ : L2.St} {H H' : Hp}
theorem CellR.same (s : Same H H') {x : Cell} {a : Addr} (h : CellR K H x a) : CellR K H' x a := by
  exact h.move (fun o e => s _ _ e) (.of_same s)
/-- all that was tracked is as it was -/
theorem Fr.same (f : Fr K c μ ρ S σ H) (s : Same H H') : Fr K c μ ρ S σ H' :=
  ⟨paired_imp f.env fun _ _ h => SlotR.mono (.of_same s) (.refl _) h, paired_imp f.cel fun _ _ h => h.same s, f.nd, f.own, fun b o e n => s b o (f.keep b o e n)⟩
theorem Fr.set {i : Nat} {x : PV} {v : V} (f : Fr K c μ ρ S σ H) (r : RepP K H μ x v) : Fr K c μ (setR ρ i (some x)) S (σ.set i (some v)) H := by
  rw [setR_eq]
  exact ⟨paired_set (F := SlotR K H μ) (x := some x) (y := some v) r i f.env, f.cel, f.nd, f.own, f.keep⟩
theorem Fr.slot {i : Nat} {x : PV} (f : Fr K c μ ρ S σ H) (h : ρ[i]? = some (some x)) : ∃ v, σ[i]? = some (some v) ∧ RepP K H μ x v := by
  obtain ⟨y, h1, h2⟩ := paired_get f.env h
  cases y with
  | none => exact h2.elim
  | some v => exact ⟨v, h1, h2⟩
theorem Fr.at {i : Nat} {x : Cell} (f : Fr K c μ ρ S σ H) (h : S[i]? = some x) : ∃ a, μ[i]? = some a ∧ CellR K H x a := paired_get f.cel h
theorem Fr.notIn (f : Fr K c μ ρ S σ H) {p : Addr} (h : H p = none) : p ∉ μ := fun hp => by
  obtain ⟨i, hi⟩ := List.getElem?_of_mem hp
  have hl : i < S.length := by rw [paired_len f.cel]; exact (List.getElem?_eq_some_iff.mp hi).1
  obtain ⟨a, h1, h2⟩ := f.at (List.getElem?_eq_getElem hl)
  rw [hi] at h1; cases h1
  obtain ⟨o, e⟩ := h2.ob
  rw [h] at e; cases e
theorem Fr.noH0 (f : Fr K c μ ρ S σ H) {p : Addr} (h : H p = none) : c.F0 p ∨ c.H0 p = none := by
  by_cases hp : c.F0 p
  · exact .inl hp
  · refine .inr ?_
    cases q : c.H0 p with
    | none => rfl
    | some o => rw [f.keep p o q hp] at h; cases h
/-- a new list becomes a cell -/
theorem Fr.newCell {p : Addr} {xs : List PyData} {vs : List V} (f : Fr K c μ ρ S σ H) (h : H p = some (.lst vs)) (hp : p ∉ μ) (ho : c.F0 p ∨ c.H0 p = none) (r : Reps K H xs vs) : Fr K c (μ ++ [p]) ρ (snocS S (.lst xs)) σ H := by
  rw [snocS_eq]
  refine ⟨paired_imp f.env fun _ _ z => SlotR.mono (.refl _) ⟨[p], rfl⟩ z, f.cel.snoc ⟨vs, h, r⟩, ?_, ?_, f.keep⟩
  · rw [List.nodup_append]
    refine ⟨f.nd, by simp, fun a ha b hb z => ?_⟩
    have e : b = p := by simpa using hb
    subst e; subst z
    exact hp ha
  · intro a ha
    rcases List.mem_append.mp ha with ha | ha
    · exact f.own a ha
    · have e : a = p := by simpa using ha
      subst e
      exact ho
/-- one cell's object is changed, all else is as it was -/
theorem Fr.put {i : Nat} {a : Addr} {y : Cell} (f : Fr K c μ ρ S σ H) (ha : μ[i]? = some a) (k : ∀ b o, H b = some o → b ≠ a → H' b = some o) (g : Ge H H') (r : CellR K H' y a) : Fr K c μ ρ (setS S i y) σ H' := by
  rw [setS_eq]
  have keepC : ∀ (j : Nat) x b, S[j]? = some x → μ[j]? = some b → j ≠ i → CellR K H x b → CellR K H' x b := fun j x b e1 e2 hj q => by
    have hb : b ≠ a := fun z => by
      subst z
      obtain ⟨b1, c1⟩ := List.getElem?_eq_some_iff.mp e2
      obtain ⟨b2, c2⟩ := List.getElem?_eq_some_iff.mp ha
      exact hj ((List.getElem_inj f.nd).mp (c1.trans c2.symm))
    exact q.move (fun o e => k _ _ e hb) g
  have cells : ∀ (T : Sto) (m : List Addr) (n : Nat), Paired (CellR K H) T m → (∀ (j : Nat) x b, T[j]? = some x → m[j]? = some b → j ≠ n → CellR K H x b → CellR K H' x b) → (∀ b, m[n]? = some b → CellR K H' y b) → Paired (CellR K H') (T.set n y) m := by
    intro T m n p
    induction p generalizing n with
    | nil => intro _ _; exact .nil
    | cons q t ih =>
      intro k1 k2
      cases n with
      | zero =>
        refine .cons (k2 _ rfl) (paired_at t fun j x b e1 e2 z => k1 (j + 1) x b (by simpa using e1) (by simpa using e2) (by omega) z)
      | succ n =>
        exact .cons (k1 0 _ _ rfl rfl (by omega) q) (ih n (fun j x b e1 e2 hj z => k1 (j + 1) x b (by simpa using e1) (by simpa using e2) (by omega) z) fun b hb => k2 b (by simpa using hb))
  refine ⟨paired_imp f.env fun _ _ z => SlotR.mono g (.refl _) z, cells S μ i f.cel keepC fun b hb => ?_, f.nd, f.own, fun b ob e n => ?_⟩
  · rw [ha] at hb; cases hb; exact r
  · have hb : b ≠ a := fun z => by
      subst z
      rcases f.own b (List.mem_of_getElem? ha) with z | z
      · exact n z
      · rw [z] at e; cases e
    exact k b ob (f.keep b ob e n) hb
/-- a cell's list is changed -/
theorem Fr.write {i : Nat} {a : Addr} {o : HO} {xs : List PyData} {y : Cell} (f : Fr K c μ ρ S σ H) (h : S[i]? = some (.lst xs)) (ha : μ[i]? = some a) (r : CellR K (upd H a o) y a) : Fr K c μ ρ (setS S i y) σ (upd H a o) ∧ Ge H (upd H a o) := by
  obtain ⟨a', h1, vs, h2, _⟩ := f.at h
  rw [ha] at h1; cases h1
  have g : Ge H (upd H a o) := .put h2
  exact ⟨f.put ha (fun b ob e hb => by rw [upd_ne hb]; exact e) g r, g⟩
/-- the frame as one of its own -/
theorem Fr.sub (f : Fr K c μ ρ S σ H) : Fr K ⟨H, fun a => a ∈ μ⟩ μ ρ S σ H := ⟨f.env, f.cel, f.nd, fun _ h => .inl h, fun _ _ e _ => e⟩
theorem Fr.back {μ' : List Addr} {ρ' : Rho} {S' : Sto} {σ' : L2.St} (f : Fr K c μ ρ S σ H) (f' : Fr K ⟨H, fun a => a ∈ μ⟩ μ' ρ' S' σ' H') : Fr K c μ' ρ' S' σ' H' := by
  refine ⟨f'.env, f'.cel, f'.nd, fun a ha => ?_, fun b o e n => ?_⟩
  · rcases f'.own a ha with z | z
    · exact f.own a z
    · exact f.noH0 z
  · refine f'.keep b o (f.keep b o e n) fun hb => ?_
    rcases f.own b hb with z | z
    · exact n z
    · rw [z] at e; cases e
/-- the same cells, other slots -/
theorem Fr.slots {ρ' : Rho} {σ' : L2.St} (f : Fr K c μ ρ S σ H) (h : Paired (SlotR K H μ) ρ' σ') : Fr K c μ ρ' S σ' H := ⟨h, f.cel, f.nd, f.own, f.keep⟩
/-- slots forgotten, cells forgotten from the end -/
@[reducible] def okC (n : Nat) : Option PV → Prop
  | some (.cel i) => i < n
  | _ => True
/-- a name of a locked list may name its items -/
def FzS (S : Sto) (x y : Option PV) : Prop := ∃ i xs, x = some (.cel i) ∧ S[i]? = some (Cell.frz xs) ∧ y = some (.d (.list xs))
@[reducible] def Wk (S : Sto) (n : Nat) : Rho → Rho → Prop
  | [], [] => True
  | x :: r, y :: s => (y = none ∨ (y = x ∧ okC n y) ∨ FzS S x y) ∧ Wk S n r s
  | _, _ => False
def WkS (b : Nat) (ρ : Rho) (S : Sto) (ρ' : Rho) (S' : Sto) : Prop := b ≤ lenS S' ∧ Wk S (lenS S') ρ ρ' ∧ ∃ rest, S = S' ++ rest
theorem Wk.env {n : Nat} {μ : List Addr} {S : Sto} (cel : ∀ (i : Nat) (xs : List PyData) (a : Addr), S[i]? = some (Cell.frz xs) → μ[i]? = some a → ∃ o vs, H a = some (HO.frz o (.lst vs)) ∧ Reps K H xs vs) : ∀ {ρ ρ' : Rho} {σ : L2.St}, Wk S n ρ ρ' → Paired (SlotR K H μ) ρ σ → Paired (SlotR K H (μ.take n)) ρ' σ
  | [], [], _, _, h => by cases h; exact .nil
  | x :: r, y :: s, _, w, h => by
    cases h with
    | cons q t =>
      refine .cons ?_ (Wk.env cel w.2 t)
      rcases w.1 with z | ⟨z, ok⟩ | ⟨i, xs, z1, z2, z3⟩
      · subst z; trivial
      · subst z
        cases y with
        | none => trivial
        | some p => rename_i v _; cases v with
          | none => exact q
          | some v => cases p with
            | d x => exact q
            | cel i =>
              obtain ⟨a, ha, e⟩ := q
              exact ⟨a, by rw [List.getElem?_take_of_lt ok]; exact ha, e⟩
      · subst z1; subst z3
        rename_i v _
        cases v with
        | none => exact q
        | some v =>
          obtain ⟨a, ha, e⟩ := q
          subst e
          obtain ⟨o, vs, e, rr⟩ := cel i xs a z2 ha
          exact ⟨a, vs, rfl, .inl ⟨o, e⟩, rr⟩
  | [], _ :: _, _, w, _ => w.elim
  | _ :: _, [], _, w, _ => w.elim
theorem paired_take {α β : Type} {F : α → β → Prop} : ∀ {xs ys : List α} {zs : List β}, Paired F (xs ++ ys) zs → Paired F xs (zs.take xs.length)
  | [], _, _, _ => by simp; exact .nil
  | _ :: _, _, _, .cons q t => .cons q (paired_take t)
theorem Fr.wk {b : Nat} {ρ' : Rho} {S' : Sto} (f : Fr K c μ ρ S σ H) (w : WkS b ρ S ρ' S') : Fr K c (μ.take (lenS S')) ρ' S' σ H := by
  obtain ⟨_, w, rest, e⟩ := w
  refine ⟨w.env (fun i xs a h1 h2 => by
    obtain ⟨a', e, cr⟩ := f.at h1
    rw [h2] at e; cases e
    exact cr) f.env, ?_, f.nd.sublist (List.take_sublist _ _), fun a ha => f.own a (List.mem_of_mem_take ha), f.keep⟩
  rw [lenS_eq]
  exact paired_take (ys := rest) (by rw [← e]; exact f.cel)
theorem Pre.take {μ1 : List Addr} (p : Pre μ1 μ) {n : Nat} (h : μ1.length ≤ n) : Pre μ1 (μ.take n) := by
  obtain ⟨r, rfl⟩ := p
  exact ⟨r.take (n - μ1.length), by rw [List.take_append, List.take_of_length_le h]⟩
end
end Pu

set_option autoImplicit false
namespace Pu
open PySem PySem.Spec PyProof.Rows L2

/-! ### the judgements over values without addresses -/
abbrev PQ := PV → Sto → Prop
abbrev TEp := Rho → Sto → PQ → Prop
abbrev TTp := Rho → Sto → (Bool → Sto → Prop) → Prop
abbrev TAp := Rho → Sto → (List PV → Sto → Prop) → Prop
abbrev TNp := Rho → Sto → (List PyData → Sto → Prop) → Prop
section
variable (K : PySem.W.Frag) (c : FP)
def Ret (R : PQ) (μ : List Addr) (ρ : Rho) (σ : L2.St) (H : Hp) (Q : VK) : Prop :=
  ∀ pv S', R pv S' → ∀ μ' v H', Pre μ μ' → Fr K c μ' ρ S' σ H' → RepP K H' μ' pv v → Ge H H' → Q v H'
def RetT (R : Bool → Sto → Prop) (μ : List Addr) (ρ : Rho) (σ : L2.St) (H : Hp) (Q : Bool → Hp → Prop) : Prop :=
  ∀ b S', R b S' → ∀ μ' H', Pre μ μ' → Fr K c μ' ρ S' σ H' → Ge H H' → Q b H'
def RetA (n : Nat) (R : List PV → Sto → Prop) (μ : List Addr) (ρ : Rho) (σ : L2.St) (H : Hp) (Q : List V → Hp → Prop) : Prop :=
  ∀ pvs S', R pvs S' → pvs.length = n → ∀ μ' vs H', Pre μ μ' → Fr K c μ' ρ S' σ H' → Paired (RepP K H' μ') pvs vs → Ge H H' → Q vs H'
/-- a new list that nobody else holds -/
def RetN (R : List PyData → Sto → Prop) (μ : List Addr) (ρ : Rho) (σ : L2.St) (H : Hp) (Q : VK) : Prop :=
  ∀ xs S', R xs S' → ∀ μ' p vs H', Pre μ μ' → Fr K c μ' ρ S' σ H' → H' p = some (.lst vs) → p ∉ μ' → (c.F0 p ∨ c.H0 p = none) → Reps K H' xs vs → Ge H H' → Q (.ref p) H'
def up (t : TEp) : TE := fun σ H Q => ∃ μ ρ S R, Fr K c μ ρ S σ H ∧ t ρ S R ∧ Ret K c R μ ρ σ H Q
def upT (t : TTp) : TT := fun σ H Q => ∃ μ ρ S R, Fr K c μ ρ S σ H ∧ t ρ S R ∧ RetT K c R μ ρ σ H Q
def upA (n : Nat) (t : TAp) : TA := fun σ H Q => ∃ μ ρ S R, Fr K c μ ρ S σ H ∧ t ρ S R ∧ RetA K c n R μ ρ σ H Q
def upN (t : TNp) : TE := fun σ H Q => ∃ μ ρ S R, Fr K c μ ρ S σ H ∧ t ρ S R ∧ RetN K c R μ ρ σ H Q
end
structure WE (X : Cx) (e : Expr) (t : TEp) : Prop where
  pe : ∀ c, PE X e (up X.K c t)
structure WT (X : Cx) (e : Expr) (t : TTp) : Prop where
  pt : ∀ c, PT X e (upT X.K c t)
structure WW (X : Cx) (e : Expr) (t : TTp) : Prop where
  pw : ∀ c, PW X e (upT X.K c t)
structure WA (X : Cx) (es : List Expr) (n : Nat) (t : TAp) : Prop where
  pa : ∀ c, PA X es (upA X.K c n t)
structure WN (X : Cx) (e : Expr) (t : TNp) : Prop where
  pe : ∀ c, PE X e (upN X.K c t)
section
variable {X : Cx} {e : Expr}
theorem pe_w {t t' : TE} (h : PE X e t) (w : ∀ σ H Q, t' σ H Q → t σ H Q) : PE X e t' := ⟨fun pins s σ H Q I q => h.run pins s σ H Q I (w σ H Q q)⟩
theorem pt_w {t t' : TT} (h : PT X e t) (w : ∀ σ H Q, t' σ H Q → t σ H Q) : PT X e t' := ⟨fun pins s σ H Q I q => h.run pins s σ H Q I (w σ H Q q)⟩
theorem pw_w {t t' : TT} (h : PW X e t) (w : ∀ σ H Q, t' σ H Q → t σ H Q) : PW X e t' := ⟨fun wh pins s σ H Q I q => h.run wh pins s σ H Q I (w σ H Q q)⟩
theorem pa_w {es : List Expr} {t t' : TA} (h : PA X es t) (w : ∀ σ H Q, t' σ H Q → t σ H Q) : PA X es t' := ⟨fun pos pins s σ H Q I q => h.run pos pins s σ H Q I (w σ H Q q)⟩
/-- a list is locked from here on: nobody will write it -/
theorem Inv.lock {pins : List (Addr × Obj)} {σ : L2.St} {H : Hp} {s : Shared} {a : Addr} {vs : List V} (I : Inv X pins σ H s) (h : H a = some (.lst vs)) : ∃ o, Inv X pins σ (upd H a (.frz o (.lst vs))) s := by
  obtain ⟨z, its, n, r, e⟩ := I.hok a _ h
  refine ⟨{ cls := .type "list", data := .seq its.toArray n }, ?_⟩
  have w := I.write (x := a) (e := a) (o := .frz { cls := .type "list", data := .seq its.toArray n } (.lst vs)) (h' := s.heap) (t' := s.toks) (by rw [h]; trivial) (.inl rfl) (fun _ _ _ q => q) ⟨_, e⟩ ⟨e, z, its, n, r, e⟩
  exact w
theorem pe_freeze {t : TE} (h : PE X e t) : PE X e (fun σ H Q => t σ H fun v H1 => Q v H1 ∨ ∃ a vs, v = .ref a ∧ H1 a = some (.lst vs) ∧ ∀ o, Q v (upd H1 a (.frz o (.lst vs)))) := by
  refine ⟨fun pins s σ H Q I q => thn (h.run pins s σ H _ I q) fun u s1 ⟨v, H1, I1, r, q1⟩ => ?_⟩
  rcases q1 with q1 | ⟨a, vs, rfl, ha, q1⟩
  · exact ⟨v, H1, I1, r, q1⟩
  · obtain ⟨o, I2⟩ := Inv.lock I1 ha
    exact ⟨.ref a, _, I2, r, q1 o⟩
end

/-! ### slots, views -/
@[reducible] def sltAt : Rho → Nat → Option PV
  | [], _ => none
  | x :: _, 0 => x
  | _ :: r, i + 1 => sltAt r i
theorem sltAt_get : ∀ {ρ : Rho} {i : Nat} {pv : PV}, sltAt ρ i = some pv → ρ[i]? = some (some pv)
  | [], _, _, h => by simp [sltAt] at h
  | _ :: _, 0, _, h => by simpa [sltAt] using h
  | _ :: r, i + 1, _, h => by simpa using sltAt_get (ρ := r) (i := i) (by simpa [sltAt] using h)
@[reducible] def cellAt : Sto → Nat → Option Cell
  | [], _ => none
  | x :: _, 0 => some x
  | _ :: r, i + 1 => cellAt r i
theorem cellAt_get : ∀ (S : Sto) (i : Nat), cellAt S i = S[i]?
  | [], _ => by simp [cellAt]
  | _ :: _, 0 => by simp [cellAt]
  | _ :: r, i + 1 => by simpa [cellAt] using cellAt_get r i
/-- what is read there: data; a list cell's list -/
@[reducible] def vw (S : Sto) : PV → Option PyData
  | .d x => some x
  | .cel i => match cellAt S i with
    | some (.lst xs) => some (.list xs)
    | some (.frz xs) => some (.list xs)
    | _ => none
/-- as Rep, but the list at the top may be one that changes later -/
def RepR (K : PySem.W.Frag) (H : Hp) (d : PyData) (v : V) : Prop := match d with
  | .list xs => ∃ a vs, v = .ref a ∧ RdL K H a vs ∧ Reps K H xs vs
  | d => Rep K H d v
theorem Rep.read {K : PySem.W.Frag} {H : Hp} : ∀ {d : PyData} {v : V}, Rep K H d v → RepR K H d v
  | .list xs, _, ⟨a, vs, e, s, r⟩ => ⟨a, vs, e, .inr s, r⟩
  | .none, _, h => h
  | .bool _, _, h => h
  | .int _, _, h => h
  | .str _, _, h => h
  | .tuple _, _, h => h
  | .dict _, _, h => h
section
variable {K : PySem.W.Frag} {c : FP} {μ : List Addr} {ρ : Rho} {S : Sto} {σ : L2.St} {H : Hp}
theorem vw_rep (f : Fr K c μ ρ S σ H) {x : PV} {v : V} {d : PyData} (r : RepP K H μ x v) (h : vw S x = some d) : RepR K H d v := by
  cases x with
  | d x => simp only [vw, Option.some.injEq] at h; subst h; exact Rep.read r
  | cel i =>
    obtain ⟨a, ha, rfl⟩ := r
    simp only [vw, cellAt_get] at h
    cases q : S[i]? with
    | none => rw [q] at h; simp at h
    | some y =>
      obtain ⟨a', e, cr⟩ := f.at q
      rw [ha] at e; cases e
      rw [q] at h
      cases y with
      | lst xs =>
        simp only [Option.some.injEq] at h; subst h
        obtain ⟨vs, e, r⟩ := cr
        exact ⟨a, vs, rfl, .inl e, r⟩
      | frz xs =>
        simp only [Option.some.injEq] at h; subst h
        obtain ⟨o, vs, e, r⟩ := cr
        exact ⟨a, vs, rfl, .inr (.inl ⟨o, e⟩), r⟩
      | led d n => simp at h
      | dic d its => simp at h
      | fdi ps => simp at h
theorem Reps.read {ds : List PyData} {vs : List V} (h : Reps K H ds vs) : Paired (RepR K H) ds vs := by
  induction ds generalizing vs with
  | nil => rw [show vs = [] from h]; exact .nil
  | cons d ds ih => obtain ⟨v, ws, rfl, r, t⟩ := h; exact .cons r.read (ih t)
end

/-! ### names and constants -/
section
variable {X : Cx}
@[reducible] def tVr (i : Nat) : TEp := fun ρ S R => match sltAt ρ i with
  | some pv => R pv S
  | none => False
@[reducible] def tCo (d : PyData) : TEp := fun _ S R => R (.d d) S
theorem w_var (i : Nat) {x : Str} {pos : Pos} (hN : X.N[i]? = some x := by rfl) (hv : Vis X.env.scope x := by first | exact Or.inl rfl | exact Or.inr (Or.inl rfl) | exact Or.inr (Or.inr rfl)) (hd : (x == ("__debug__" : Str)) = false := by decide)
    (hcd : (x == ("__classdict__" : Str)) = false := by decide) : WE X (.Name x pos) (tVr i) := by
  refine ⟨fun c => pe_w (pv i hN hv hd hcd) fun σ H Q ⟨μ, ρ, S, R, f, h, q⟩ => ?_⟩
  unfold tVr at h
  split at h
  · rename_i pv e
    obtain ⟨v, hv, r⟩ := f.slot (sltAt_get e)
    exact ⟨v, hv, q pv S h μ v H (.refl _) f r (.refl _)⟩
  · exact h.elim
theorem w_co {e : Expr} {v : V} {d : PyData} (h : PE X e (tC v)) (r : ∀ H, Rep X.K H d v) : WE X e (tCo d) :=
  ⟨fun c => pe_w h fun σ H Q ⟨μ, ρ, S, R, f, h, q⟩ => q _ S h μ v H (.refl _) f (r H) (.refl _)⟩
theorem w_int {i j pos} : WE X (.Constant (.int i) j pos) (tCo (.int i)) := w_co pe_int fun _ => rfl
theorem w_bl {b j pos} : WE X (.Constant (.bool b) j pos) (tCo (.bool b)) := w_co pe_bl fun _ => rfl
theorem w_non {j pos} : WE X (.Constant .none j pos) (tCo .none) := w_co pe_non fun _ => rfl
theorem w_str {x j pos} : WE X (.Constant (.str x) j pos) (tCo (.str x)) := w_co pe_str fun _ => rfl

/-! ### operators on data -/
abbrev OpD := PyData → PyData → (PyData → Prop) → Prop
/-- how a rule over addresses goes on -/
structure RetD (K : PySem.W.Frag) (H : Hp) (k : PyData → Prop) (Q : VK) : Prop where
  val : ∀ r v H', k r → Rep K H' r v → Same H H' → Q v H'
  new : ∀ xs p vs, k (.list xs) → H p = none → Reps K H xs vs → Q (.ref p) (upd H p (.lst vs))
def OpdOk (K : PySem.W.Frag) (r : R2) (p : OpD) : Prop := ∀ (H : Hp) (a b : PyData) (va vb : V) (k : PyData → Prop) (Q : VK), RepR K H a va → RepR K H b vb → p a b k → RetD K H k Q → r va vb H Q
@[reducible] def tBin (p : OpD) (ta tb : TEp) : TEp := fun ρ S R => ta ρ S fun x S1 => tb ρ S1 fun y S2 => match vw S2 x, vw S2 y with
  | some a, some b => p a b fun r => R (.d r) S2
  | _, _ => False
@[reducible] def tUnp (p : PyData → (PyData → Prop) → Prop) (ta : TEp) : TEp := fun ρ S R => ta ρ S fun x S1 => match vw S1 x with
  | some a => p a fun r => R (.d r) S1
  | none => False
/-- how data and new lists are handed on, once more -/
abbrev Fz (Q : VK) : VK := fun v H1 => Q v H1 ∨ ∃ a vs, v = .ref a ∧ H1 a = some (.lst vs) ∧ ∀ o, Q v (upd H1 a (.frz o (.lst vs)))
theorem retD_of {c : FP} {μ0 μ : List Addr} {ρ : Rho} {S : Sto} {σ : L2.St} {H0 H : Hp} {R : PQ} {Q : VK} (f : Fr X.K c μ ρ S σ H) (q : Ret X.K c R μ0 ρ σ H0 Q) (p : Pre μ0 μ) (g : Ge H0 H) :
    RetD X.K H (fun r => R (.d r) S) (Fz Q) where
  val := fun r v H' hk rep same => .inl (q (.d r) S hk μ v H' p (f.same same) rep (g.trans (.of_same same)))
  new := fun xs a vs hk hn reps => .inr ⟨a, vs, rfl, upd_same, fun o => by
    rw [upd_upd]
    exact q (.d (.list xs)) S hk μ (.ref a) _ p (f.same (same_new hn)) ⟨a, vs, rfl, .inl ⟨o, upd_same⟩, Reps.mono (.new hn) _ _ reps⟩ (g.trans (.new hn))⟩
variable {a b : Expr} {ta tb : TEp} {pos : Pos}
theorem bin_up {r : R2} {p : OpD} (hp : OpdOk X.K r p) {c : FP} {σ : L2.St} {H : Hp} {Q : VK} (h : up X.K c (tBin p ta tb) σ H Q) : tOp r (up X.K c ta) (up X.K c tb) σ H (Fz Q) := by
  obtain ⟨μ, ρ, S, R, f, h, q⟩ := h
  refine ⟨μ, ρ, S, _, f, h, fun x S1 h1 μ1 v1 H1 p1 f1 r1 g1 => ⟨μ1, ρ, S1, _, f1, h1, fun y S2 h2 μ2 v2 H2 p2 f2 r2 g2 => ?_⟩⟩
  split at h2
  · rename_i d e e1 e2
    exact hp H2 d e v1 v2 _ _ (vw_rep f2 (r1.mono g2 p2) e1) (vw_rep f2 r2 e2) h2 (retD_of f2 q (p1.trans p2) (g1.trans g2))
  · exact h2.elim
theorem w_bin {op : Operator} {r : R2} {p : OpD} (ho : OpR X (binaryOp op) r) (hp : OpdOk X.K r p) (ha : WE X a ta) (hb : WE X b tb) : WE X (.BinOp a op b pos) (tBin p ta tb) :=
  ⟨fun c => pe_w (pe_freeze (pe_op ho (ha.pe c) (hb.pe c))) fun _ _ _ h => bin_up hp h⟩
theorem w_cmp {op : CmpOp} {r : R2} {p : OpD} (ho : OpR X (compareOp op) r) (hp : OpdOk X.K r p) (ha : WE X a ta) (hb : WE X b tb) (hm : behindInMarks op b = false) : WE X (.Compare a [op] [b] pos) (tBin p ta tb) :=
  ⟨fun c => pe_w (pe_freeze (pe_cmpR ho (ha.pe c) (hb.pe c) hm)) fun _ _ _ h => bin_up hp h⟩
@[reducible] def tTst (t : TEp) : TTp := fun ρ S R => t ρ S fun x S1 => match x with
  | .d (.bool b) => R b S1
  | _ => False
theorem tst_up {t : TEp} {c : FP} {μ : List Addr} {ρ : Rho} {S : Sto} {σ : L2.St} {H : Hp} {R : Bool → Sto → Prop} {Q : Bool → Hp → Prop} (f : Fr X.K c μ ρ S σ H) (h : tTst t ρ S R) (q : RetT X.K c R μ ρ σ H Q) :
    up X.K c t σ H (fun x H1 => ∃ k, x = .bl k ∧ Q k H1) := by
  refine ⟨μ, ρ, S, _, f, h, fun x S1 h1 μ1 v1 H1 p1 f1 r1 g1 => ?_⟩
  split at h1
  · rename_i b
    exact ⟨b, r1, q b S1 h1 μ1 H1 p1 f1 g1⟩
  · exact h1.elim
theorem w_tcmp {op : CmpOp} {r : R2} {p : OpD} (ho : OpR X (compareOp op) r) (hp : OpdOk X.K r p) (hr : ∀ x y H Q Q', (∀ v H1, Q v H1 → Q' v H1) → r x y H Q → r x y H Q') (ha : WE X a ta) (hb : WE X b tb) (hm : behindInMarks op b = false) : WT X (.Compare a [op] [b] pos) (tTst (tBin p ta tb)) := by
  refine ⟨fun c => pt_w (pt_cmpR ho (ha.pe c) (hb.pe c) hm) fun σ H Q ⟨μ, ρ, S, R, f, h, q⟩ => ?_⟩
  have u := tst_up f h q
  obtain ⟨μ, ρ, S, R, f, h, q⟩ := bin_up hp u
  refine ⟨μ, ρ, S, R, f, h, fun pv S' r1 μ' v H' p' f' rp g' => ?_⟩
  obtain ⟨μ, ρ, S, R, f, h, q⟩ := q pv S' r1 μ' v H' p' f' rp g'
  refine ⟨μ, ρ, S, R, f, h, fun pv S' r1 μ' v H' p' f' rp g' => ?_⟩
  refine hr _ _ _ _ _ (fun v H1 z => ?_) (q pv S' r1 μ' v H' p' f' rp g')
  rcases z with z | ⟨a, vs, rfl, _, z⟩
  · exact z
  · obtain ⟨k, e, _⟩ := z { cls := .none, data := .fields #[] }
    cases e
/-- an expression whose value is True or False, as a test -/
theorem w_val {e : Expr} {t : TEp} (h : WE X e t) (he : ∀ whole, isTrue e X.env whole = (do let v ← whole; standAt e.pos; holding [v] (truthy v)) := by intro _; rfl) : WT X e (tTst t) :=
  ⟨fun c => pt_w (pt_val (h.pe c) he) fun _ _ _ ⟨_, _, _, _, f, h, q⟩ => tst_up f h q⟩
theorem w_un {op : UnaryOp} {r : V → Hp → VK → Prop} {p : PyData → (PyData → Prop) → Prop} (ho : UnR X (unaryOp op) r) (hp : ∀ (H : Hp) (a : PyData) (va : V) (k : PyData → Prop) (Q : VK), RepR X.K H a va → p a k → RetD X.K H k Q → r va H Q) (ha : WE X a ta) : WE X (.UnaryOp op a pos) (tUnp p ta) := by
  refine ⟨fun c => pe_w (pe_freeze (pe_un ho (ha.pe c))) fun σ H Q ⟨μ, ρ, S, R, f, h, q⟩ => ?_⟩
  refine ⟨μ, ρ, S, _, f, h, fun x S1 h1 μ1 v1 H1 p1 f1 r1 g1 => ?_⟩
  split at h1
  · rename_i d e1
    exact hp H1 d v1 _ _ (vw_rep f1 r1 e1) h1 (retD_of f1 q p1 g1)
  · exact h1.elim

/-! ### and, or, not, if else -/
variable {tA tB' : TTp} {rest : List Expr}
@[reducible] def tAn (t u : TTp) : TTp := fun ρ S R => t ρ S fun c S1 => Br c (u ρ S1 R) (R false S1)
@[reducible] def tOrr (t u : TTp) : TTp := fun ρ S R => t ρ S fun c S1 => Br c (R true S1) (u ρ S1 R)
@[reducible] def tNo (t : TTp) : TTp := fun ρ S R => t ρ S fun c S1 => R (bnot c) S1
theorem WW.wt {e : Expr} {t : TTp} (h : WW X e t) : WT X e t := ⟨fun c => (h.pw c).pt⟩
theorem ww_and1 (ha : WT X a tA) : WW X (.BoolOp .And [a] pos) tA := ⟨fun c => pw_and1 (ha.pt c)⟩
theorem ww_or1 (ha : WT X a tA) : WW X (.BoolOp .Or [a] pos) tA := ⟨fun c => pw_or1 (ha.pt c)⟩
theorem ww_and (ha : WT X a tA) (hb : WW X (.BoolOp .And (b :: rest) pos) tB') : WW X (.BoolOp .And (a :: b :: rest) pos) (tAn tA tB') := by
  refine ⟨fun c => pw_w (pw_and (ha.pt c) (hb.pw c)) fun σ H Q ⟨μ, ρ, S, R, f, h, q⟩ => ?_⟩
  refine ⟨μ, ρ, S, _, f, h, fun k S1 h1 μ1 H1 p1 f1 g1 => ?_⟩
  cases k with
  | true => exact iteT ⟨μ1, ρ, S1, R, f1, h1, fun k2 S2 h2 μ2 H2 p2 f2 g2 => q k2 S2 h2 μ2 H2 (p1.trans p2) f2 (g1.trans g2)⟩
  | false => exact iteF (q false S1 (h1) μ1 H1 p1 f1 g1)
theorem ww_or (ha : WT X a tA) (hb : WW X (.BoolOp .Or (b :: rest) pos) tB') : WW X (.BoolOp .Or (a :: b :: rest) pos) (tOrr tA tB') := by
  refine ⟨fun c => pw_w (pw_or (ha.pt c) (hb.pw c)) fun σ H Q ⟨μ, ρ, S, R, f, h, q⟩ => ?_⟩
  refine ⟨μ, ρ, S, _, f, h, fun k S1 h1 μ1 H1 p1 f1 g1 => ?_⟩
  cases k with
  | true => exact iteT (q true S1 (h1) μ1 H1 p1 f1 g1)
  | false => exact iteF ⟨μ1, ρ, S1, R, f1, h1, fun k2 S2 h2 μ2 H2 p2 f2 g2 => q k2 S2 h2 μ2 H2 (p1.trans p2) f2 (g1.trans g2)⟩
theorem wt_not (ha : WT X a tA) : WT X (.UnaryOp .Not a pos) (tNo tA) := by
  refine ⟨fun c => pt_w (pt_not (ha.pt c)) fun σ H Q ⟨μ, ρ, S, R, f, h, q⟩ => ?_⟩
  exact ⟨μ, ρ, S, _, f, h, fun k S1 h1 μ1 H1 p1 f1 g1 => by
    show Q (!k) H1
    rw [← bnot_eq k]; exact q _ S1 h1 μ1 H1 p1 f1 g1⟩
/-- .. as values -/
@[reducible] def tAnV (ta tb : TEp) : TEp := fun ρ S R => ta ρ S fun x S1 => match x with
  | .d (.bool c) => Br c (tb ρ S1 R) (R (.d (.bool false)) S1)
  | _ => False
@[reducible] def tOrV' (ta tb : TEp) : TEp := fun ρ S R => ta ρ S fun x S1 => match x with
  | .d (.bool c) => Br c (R (.d (.bool true)) S1) (tb ρ S1 R)
  | _ => False
@[reducible] def tNoV (ta : TEp) : TEp := fun ρ S R => ta ρ S fun x S1 => match x with
  | .d (.bool c) => R (.d (.bool (bnot c))) S1
  | _ => False
theorem we_one {op} {t : TEp} (h : WE X a t) : WE X (.BoolOp op [a] pos) t := ⟨fun c => pe_one (h.pe c)⟩
theorem Ret.sub {c : FP} {μ μ1 : List Addr} {ρ : Rho} {σ : L2.St} {H H1 : Hp} {R : PQ} {Q : VK} (q : Ret X.K c R μ ρ σ H Q) (p1 : Pre μ μ1) (g1 : Ge H H1) : Ret X.K c R μ1 ρ σ H1 Q :=
  fun x S' h μ' v H' p f r g => q x S' h μ' v H' (p1.trans p) f r (g1.trans g)
theorem we_and (ha : WE X a ta) (hb : WE X (.BoolOp .And (b :: rest) pos) tb) : WE X (.BoolOp .And (a :: b :: rest) pos) (tAnV ta tb) := by
  refine ⟨fun c => pe_w (pe_and (ha.pe c) (hb.pe c)) fun σ H Q ⟨μ, ρ, S, R, f, h, q⟩ => ?_⟩
  refine ⟨μ, ρ, S, _, f, h, fun x S1 h1 μ1 v1 H1 p1 f1 r1 g1 => ?_⟩
  split at h1
  · rename_i k
    refine ⟨k, r1, ?_⟩
    cases k with
    | true => exact iteT ⟨μ1, ρ, S1, R, f1, h1, q.sub p1 g1⟩
    | false => exact iteF (q (.d (.bool false)) S1 (h1) μ1 (.bl false) H1 p1 f1 rfl g1)
  · exact h1.elim
theorem we_or (ha : WE X a ta) (hb : WE X (.BoolOp .Or (b :: rest) pos) tb) : WE X (.BoolOp .Or (a :: b :: rest) pos) (tOrV' ta tb) := by
  refine ⟨fun c => pe_w (pe_or (ha.pe c) (hb.pe c)) fun σ H Q ⟨μ, ρ, S, R, f, h, q⟩ => ?_⟩
  refine ⟨μ, ρ, S, _, f, h, fun x S1 h1 μ1 v1 H1 p1 f1 r1 g1 => ?_⟩
  split at h1
  · rename_i k
    refine ⟨k, r1, ?_⟩
    cases k with
    | true => exact iteT (q (.d (.bool true)) S1 (h1) μ1 (.bl true) H1 p1 f1 rfl g1)
    | false => exact iteF ⟨μ1, ρ, S1, R, f1, h1, q.sub p1 g1⟩
  · exact h1.elim
theorem we_not (ha : WE X a ta) : WE X (.UnaryOp .Not a pos) (tNoV ta) := by
  refine ⟨fun c => pe_w (pe_not (ha.pe c)) fun σ H Q ⟨μ, ρ, S, R, f, h, q⟩ => ?_⟩
  refine ⟨μ, ρ, S, _, f, h, fun x S1 h1 μ1 v1 H1 p1 f1 r1 g1 => ?_⟩
  split at h1
  · rename_i k
    exact ⟨k, r1, by rw [← bnot_eq k]; exact q (.d (.bool (bnot k))) S1 h1 μ1 (.bl (bnot k)) H1 p1 f1 rfl g1⟩
  · exact h1.elim
@[irreducible] def tIe (t : TTp) (ta tb : TEp) : TEp := fun ρ S R => t ρ S fun c S1 => Br c (ta ρ S1 R) (tb ρ S1 R)
theorem tie_ {t : TTp} {ta tb : TEp} {ρ : Rho} {S : Sto} {R : PQ} (h : t ρ S fun c S1 => Br c (ta ρ S1 R) (tb ρ S1 R)) : tIe t ta tb ρ S R := by
  unfold tIe; exact h
theorem we_ifExp {k : Expr} (hc : WT X k tA) (ha : WE X a ta) (hb : WE X b tb) : WE X (.IfExp k a b pos) (tIe tA ta tb) := by
  refine ⟨fun c => pe_w (pe_ifExp (hc.pt c) (ha.pe c) (hb.pe c)) fun σ H Q ⟨μ, ρ, S, R, f, h, q⟩ => ?_⟩
  unfold tIe at h
  refine ⟨μ, ρ, S, _, f, h, fun k S1 h1 μ1 H1 p1 f1 g1 => ?_⟩
  cases k with
  | true => exact iteT ⟨μ1, ρ, S1, R, f1, h1, q.sub p1 g1⟩
  | false => exact iteF ⟨μ1, ρ, S1, R, f1, h1, q.sub p1 g1⟩

/-! ### arguments -/
@[reducible] def tAnil : TAp := fun _ S R => R [] S
@[reducible] def tAcons (ta : TEp) (tr : TAp) : TAp := fun ρ S R => ta ρ S fun x S1 => tr ρ S1 fun xs S2 => R (x :: xs) S2
theorem wa_nil : WA X [] 0 tAnil := ⟨fun c => pa_w pa_nil fun σ H Q ⟨μ, ρ, S, R, f, h, q⟩ => q [] S h rfl μ [] H (.refl _) f .nil (.refl _)⟩
theorem wa_cons {e : Expr} {es : List Expr} {n : Nat} {te : TEp} {t : TAp} (ha : WE X e te) (hr : WA X es n t) (hs : starEach (e :: es) X.env = (false, eval e X.env) :: starEach es X.env := by rfl) : WA X (e :: es) (n + 1) (tAcons te t) := by
  refine ⟨fun c => pa_w (pa_cons (ha.pe c) (hr.pa c) hs) fun σ H Q ⟨μ, ρ, S, R, f, h, q⟩ => ?_⟩
  refine ⟨μ, ρ, S, _, f, h, fun x S1 h1 μ1 v1 H1 p1 f1 r1 g1 => ⟨μ1, ρ, S1, _, f1, h1, fun xs S2 h2 hl μ2 vs H2 p2 f2 r2 g2 => ?_⟩⟩
  exact q (x :: xs) S2 h2 (by rw [List.length_cons, hl]) μ2 (v1 :: vs) H2 (p1.trans p2) f2 (.cons (r1.mono g2 p2) r2) (g1.trans g2)
/-- all of them data -/
@[reducible] def dsOf (S : Sto) : List PV → Option (List PyData)
  | [] => some []
  | x :: xs => match vw S x, dsOf S xs with
    | some d, some ds => some (d :: ds)
    | _, _ => none
@[reducible] def dsP : List PV → Option (List PyData)
  | [] => some []
  | .d x :: xs => match dsP xs with
    | some ds => some (x :: ds)
    | none => none
  | .cel _ :: _ => none
theorem dsP_rep {K : PySem.W.Frag} {H : Hp} {μ : List Addr} : ∀ {pvs : List PV} {vs : List V} {ds : List PyData}, Paired (RepP K H μ) pvs vs → dsP pvs = some ds → Reps K H ds vs ∧ ds.length = pvs.length
  | _, _, _, .nil, h => by simp only [dsP, Option.some.injEq] at h; subst h; exact ⟨rfl, rfl⟩
  | .d x :: pvs, _, _, .cons r t, h => by
    simp only [dsP] at h
    split at h
    · rename_i ds e
      cases h
      obtain ⟨a, b⟩ := dsP_rep t e
      exact ⟨⟨_, _, rfl, r, a⟩, by rw [List.length_cons, List.length_cons, b]⟩
    · cases h
  | .cel _ :: _, _, _, .cons _ _, h => by simp [dsP] at h
theorem dsOf_rep {K : PySem.W.Frag} {c : FP} {μ : List Addr} {ρ : Rho} {S : Sto} {σ : L2.St} {H : Hp} (f : Fr K c μ ρ S σ H) : ∀ {pvs : List PV} {vs : List V} {ds : List PyData}, Paired (RepP K H μ) pvs vs → dsOf S pvs = some ds → Paired (RepR K H) ds vs
  | _, _, _, .nil, h => by simp only [dsOf, Option.some.injEq] at h; subst h; exact .nil
  | x :: pvs, _, _, .cons r t, h => by
    simp only [dsOf] at h
    split at h
    · rename_i d ds e1 e2
      cases h
      exact .cons (vw_rep f r e1) (dsOf_rep f t e2)
    · cases h
@[reducible] def tTp (t : TAp) : TEp := fun ρ S R => t ρ S fun xs S1 => match dsP xs with
  | some ds => R (.d (.tuple ds)) S1
  | none => False
@[reducible] def tLs (t : TAp) : TEp := fun ρ S R => t ρ S fun xs S1 => match dsP xs with
  | some ds => R (.d (.list ds)) S1
  | none => False
@[reducible] def tLsN (t : TAp) : TNp := fun ρ S R => t ρ S fun xs S1 => match dsP xs with
  | some ds => R ds S1
  | none => False
theorem line1000 {n : Nat} (h : n ≤ 1000) : n ≤ sizeLine := Nat.le_trans h (by decide)
variable {es : List Expr} {n : Nat} {t : TAp}
theorem w_tup {k} (h : WA X es n t) (hn : n ≤ 1000 := by decide) : WE X (.Tuple es k pos) (tTp t) := by
  refine ⟨fun c => pe_w (pe_tup (h.pa c)) fun σ H Q ⟨μ, ρ, S, R, f, h, q⟩ => ?_⟩
  refine ⟨μ, ρ, S, _, f, h, fun xs S1 h1 hl μ1 vs H1 p1 f1 r1 g1 => ?_⟩
  split at h1
  · rename_i ds e
    obtain ⟨rr, el⟩ := dsP_rep r1 e
    refine ⟨by rw [← rr.length, el, hl]; exact line1000 hn, fun p hp => ?_⟩
    exact q _ S1 h1 μ1 (.ref p) _ p1 (f1.same (same_new hp)) ⟨p, vs, rfl, .of upd_same, Reps.mono (.new hp) _ _ rr⟩ (g1.trans (.new hp))
  · exact h1.elim
theorem w_list (h : WA X es n t) (hn : n ≤ 1000 := by decide) : WE X (.List es pos) (tLs t) := by
  refine ⟨fun c => pe_w (pe_freeze (pe_lst (h.pa c))) fun σ H Q ⟨μ, ρ, S, R, f, h, q⟩ => ?_⟩
  refine ⟨μ, ρ, S, _, f, h, fun xs S1 h1 hl μ1 vs H1 p1 f1 r1 g1 => ?_⟩
  split at h1
  · rename_i ds e
    obtain ⟨rr, el⟩ := dsP_rep r1 e
    refine ⟨by rw [← rr.length, el, hl]; exact line1000 hn, fun p hp => .inr ⟨p, vs, rfl, upd_same, fun o => ?_⟩⟩
    rw [upd_upd]
    exact q _ S1 h1 μ1 (.ref p) _ p1 (f1.same (same_new hp)) ⟨p, vs, rfl, .inl ⟨o, upd_same⟩, Reps.mono (.new hp) _ _ rr⟩ (g1.trans (.new hp))
  · exact h1.elim
theorem wn_list (h : WA X es n t) (hn : n ≤ 1000 := by decide) : WN X (.List es pos) (tLsN t) := by
  refine ⟨fun c => pe_w (pe_lst (h.pa c)) fun σ H Q ⟨μ, ρ, S, R, f, h, q⟩ => ?_⟩
  refine ⟨μ, ρ, S, _, f, h, fun xs S1 h1 hl μ1 vs H1 p1 f1 r1 g1 => ?_⟩
  split at h1
  · rename_i ds e
    obtain ⟨rr, el⟩ := dsP_rep r1 e
    refine ⟨by rw [← rr.length, el, hl]; exact line1000 hn, fun p hp => ?_⟩
    exact q ds S1 h1 μ1 p vs _ p1 (f1.same (same_new hp)) upd_same (f1.notIn hp) (f1.noH0 hp) (Reps.mono (.new hp) _ _ rr) (g1.trans (.new hp))
  · exact h1.elim
/-- a value that is locked where it is a list cell -/
@[reducible] def tFz (t : TEp) : TEp := fun ρ S R => t ρ S fun x S1 => match x with
  | .d y => R (.d y) S1
  | .cel i => match cellAt S1 i with
    | some (.lst xs) => R (.d (.list xs)) (setS S1 i (.frz xs))
    | some (.frz xs) => R (.d (.list xs)) S1
    | _ => False
theorem w_fz {e : Expr} {t : TEp} (h : WE X e t) : WE X e (tFz t) := by
  refine ⟨fun c => pe_w (pe_freeze (h.pe c)) fun σ H Q ⟨μ, ρ, S, R, f, h, q⟩ => ?_⟩
  refine ⟨μ, ρ, S, _, f, h, fun x S1 h1 μ1 v1 H1 p1 f1 r1 g1 => ?_⟩
  cases x with
  | d y => exact .inl (q _ S1 h1 μ1 v1 H1 p1 f1 r1 g1)
  | cel i =>
    obtain ⟨a, ha, rfl⟩ := r1
    simp only [cellAt_get] at h1
    cases z : S1[i]? with
    | none => rw [z] at h1; exact h1.elim
    | some y =>
      obtain ⟨a', e, cr⟩ := f1.at z
      rw [ha] at e; cases e
      rw [z] at h1
      cases y with
      | lst xs =>
        obtain ⟨vs, e, rr⟩ := cr
        refine .inr ⟨a, vs, rfl, e, fun o => ?_⟩
        obtain ⟨f2, g2⟩ := f1.write (o := .frz o (.lst vs)) (y := .frz xs) z ha ⟨o, vs, upd_same, Reps.mono (.put e) _ _ rr⟩
        exact q (.d (.list xs)) _ h1 μ1 _ _ p1 f2 ⟨a, vs, rfl, .inl ⟨o, upd_same⟩, Reps.mono g2 _ _ rr⟩ (g1.trans g2)
      | frz xs =>
        obtain ⟨o, vs, e, rr⟩ := cr
        exact .inl (q (.d (.list xs)) _ h1 μ1 _ _ p1 f1 ⟨a, vs, rfl, .inl ⟨o, e⟩, rr⟩ g1)
      | led d n => exact h1.elim
      | dic d its => exact h1.elim
      | fdi ps => exact h1.elim
end
end Pu

set_option autoImplicit false
namespace Pu
open PySem PySem.Spec PyProof.Rows L2

/-! ### statements -/
structure EndsP where
  nx : Rho → Sto → Prop
  rt : PQ
  bk : Rho → Sto → Prop := fun _ _ => False
  ct : Rho → Sto → Prop := fun _ _ => False
abbrev TSp := EndsP → Rho → Sto → Prop
structure RetS (K : PySem.W.Frag) (c : FP) (E : EndsP) (μ : List Addr) (H : Hp) (Dn : Ends) : Prop where
  nx : ∀ ρ' S', E.nx ρ' S' → ∀ μ' σ' H', Pre μ μ' → Fr K c μ' ρ' S' σ' H' → Ge H H' → Dn.nx σ' H'
  rt : ∀ pv S', E.rt pv S' → ∀ μ' ρ' σ' v H', Pre μ μ' → Fr K c μ' ρ' S' σ' H' → RepP K H' μ' pv v → Ge H H' → Dn.rt v H'
  bk : ∀ ρ' S', E.bk ρ' S' → ∀ μ' σ' H', Pre μ μ' → Fr K c μ' ρ' S' σ' H' → Ge H H' → Dn.bk σ' H'
  ct : ∀ ρ' S', E.ct ρ' S' → ∀ μ' σ' H', Pre μ μ' → Fr K c μ' ρ' S' σ' H' → Ge H H' → Dn.ct σ' H'
theorem RetS.sub {K : PySem.W.Frag} {c : FP} {E : EndsP} {μ μ1 : List Addr} {H H1 : Hp} {Dn : Ends} (q : RetS K c E μ H Dn) (p : Pre μ μ1) (g : Ge H H1) : RetS K c E μ1 H1 Dn where
  nx := fun ρ' S' h μ' σ' H' p' f g' => q.nx ρ' S' h μ' σ' H' (p.trans p') f (g.trans g')
  rt := fun pv S' h μ' ρ' σ' v H' p' f r g' => q.rt pv S' h μ' ρ' σ' v H' (p.trans p') f r (g.trans g')
  bk := fun ρ' S' h μ' σ' H' p' f g' => q.bk ρ' S' h μ' σ' H' (p.trans p') f (g.trans g')
  ct := fun ρ' S' h μ' σ' H' p' f g' => q.ct ρ' S' h μ' σ' H' (p.trans p') f (g.trans g')
def upS (K : PySem.W.Frag) (c : FP) (t : TSp) : TS := fun Dn σ H => ∃ μ ρ S E, Fr K c μ ρ S σ H ∧ t E ρ S ∧ RetS K c E μ H Dn
structure WS (X : Cx) (st : Stmt) (t : TSp) : Prop where
  ps : ∀ c, PS X st (upS X.K c t)
structure WSs (X : Cx) (sts : List Stmt) (t : TSp) : Prop where
  ps : ∀ c, PSs X sts (upS X.K c t)
section
variable {X : Cx} {st : Stmt} {rest : List Stmt} {t u : TSp} {e : Expr} {te : TEp} {pos : Pos}
theorem ps_w {t t' : TS} (h : PS X st t) (w : ∀ D σ H, t' D σ H → t D σ H) : PS X st t' := ⟨fun pins s σ H D I q => h.run pins s σ H D I (w D σ H q)⟩
theorem pss_w {t t' : TS} (h : PSs X rest t) (w : ∀ D σ H, t' D σ H → t D σ H) : PSs X rest t' := ⟨fun pins s σ H D I q => h.run pins s σ H D I (w D σ H q)⟩
@[reducible] def tNx : TSp := fun E ρ S => E.nx ρ S
@[reducible] def tSq (t u : TSp) : TSp := fun E ρ S => match E with | ⟨nx, rt, bk, ct⟩ => t ⟨u ⟨nx, rt, bk, ct⟩, rt, bk, ct⟩ ρ S
theorem wss_nil : WSs X [] tNx := ⟨fun c => pss_w pss_nil fun D σ H ⟨μ, ρ, S, E, f, h, q⟩ => q.nx ρ S h μ σ H (.refl _) f (.refl _)⟩
theorem wss_cons (h1 : WS X st t) (h2 : WSs X rest u) : WSs X (st :: rest) (tSq t u) := by
  refine ⟨fun c => pss_w (pss_cons (h1.ps c) (h2.ps c)) fun D σ H ⟨μ, ρ, S, E, f, h, q⟩ => ?_⟩
  exact ⟨μ, ρ, S, { E with nx := u E }, f, h, ⟨fun ρ' S' hx μ' σ' H' p f' g => ⟨μ', ρ', S', E, f', hx, q.sub p g⟩, q.rt, q.bk, q.ct⟩⟩
/-- a bar: nothing is reckoned past it -/
structure Bar (p : Prop) : Prop where
  out : p
@[reducible] def tSqB (t u : TSp) : TSp := fun E ρ S => match E with | ⟨nx, rt, bk, ct⟩ => t ⟨fun ρ1 S1 => Bar (u ⟨nx, rt, bk, ct⟩ ρ1 S1), rt, bk, ct⟩ ρ S
theorem wss_consB (h1 : WS X st t) (h2 : WSs X rest u) : WSs X (st :: rest) (tSqB t u) := by
  refine ⟨fun c => pss_w (pss_cons (h1.ps c) (h2.ps c)) fun D σ H ⟨μ, ρ, S, E, f, h, q⟩ => ?_⟩
  exact ⟨μ, ρ, S, { E with nx := fun ρ1 S1 => Bar (u E ρ1 S1) }, f, h, ⟨fun ρ' S' hx μ' σ' H' p f' g => ⟨μ', ρ', S', E, f', hx.out, q.sub p g⟩, q.rt, q.bk, q.ct⟩⟩
theorem wss_one (h1 : WS X st t) : WSs X [st] t := ⟨fun c => pss_one (h1.ps c)⟩
theorem ws_pass : WS X (.Pass pos) tNx := ⟨fun c => ps_w ps_pass fun D σ H ⟨μ, ρ, S, E, f, h, q⟩ => q.nx ρ S h μ σ H (.refl _) f (.refl _)⟩
theorem ws_break : WS X (.Break pos) (fun E ρ S => E.bk ρ S) := ⟨fun c => ps_w ps_break fun D σ H ⟨μ, ρ, S, E, f, h, q⟩ => q.bk ρ S h μ σ H (.refl _) f (.refl _)⟩
theorem ws_continue : WS X (.Continue pos) (fun E ρ S => E.ct ρ S) := ⟨fun c => ps_w ps_continue fun D σ H ⟨μ, ρ, S, E, f, h, q⟩ => q.ct ρ S h μ σ H (.refl _) f (.refl _)⟩
@[reducible] def tDp (te : TEp) : TSp := fun E ρ S => te ρ S fun _ S1 => E.nx ρ S1
theorem ws_expr (he : WE X e te) (hs : swapsWith e none pos.line X.env = pure false := by rfl) : WS X (.Expr e pos) (tDp te) := by
  refine ⟨fun c => ps_w (ps_expr (he.pe c) hs) fun D σ H ⟨μ, ρ, S, E, f, h, q⟩ => ?_⟩
  exact ⟨μ, ρ, S, _, f, h, fun x S1 h1 μ1 v1 H1 p1 f1 r1 g1 => q.nx ρ S1 h1 μ1 σ H1 p1 f1 g1⟩
@[reducible] def tRt (te : TEp) : TSp := fun E ρ S => te ρ S E.rt
theorem ws_ret (he : WE X e te) : WS X (.Return (some e) pos) (tRt te) := by
  refine ⟨fun c => ps_w (ps_ret (he.pe c)) fun D σ H ⟨μ, ρ, S, E, f, h, q⟩ => ?_⟩
  exact ⟨μ, ρ, S, _, f, h, fun x S1 h1 μ1 v1 H1 p1 f1 r1 g1 => q.rt x S1 h1 μ1 ρ σ v1 H1 p1 f1 r1 g1⟩
/-- a new list is handed back: the caller may go on to change it -/
@[reducible] def tRtN (te : TNp) : TSp := fun E ρ S => te ρ S fun xs S1 => E.rt (.cel (lenS S1)) (snocS S1 (.lst xs))
theorem ws_retN {te : TNp} (he : WN X e te) : WS X (.Return (some e) pos) (tRtN te) := by
  refine ⟨fun c => ps_w (ps_ret (he.pe c)) fun D σ H ⟨μ, ρ, S, E, f, h, q⟩ => ?_⟩
  refine ⟨μ, ρ, S, _, f, h, fun xs S1 h1 μ1 p vs H1 p1 f1 hp np no rr g1 => ?_⟩
  refine q.rt _ _ h1 (μ1 ++ [p]) ρ σ _ H1 (p1.trans ⟨[p], rfl⟩) (f1.newCell hp np no rr) ⟨p, ?_, rfl⟩ g1
  rw [lenS_eq, paired_len f1.cel]; simp
theorem ws_retNone : WS X (.Return none pos) (fun E _ S => E.rt (.d .none) S) := ⟨fun c => ps_w ps_retN fun D σ H ⟨μ, ρ, S, E, f, h, q⟩ => q.rt _ S h μ ρ σ .non H (.refl _) f rfl (.refl _)⟩
@[reducible] def tIfP (tc : TTp) (t u : TSp) : TSp := fun E ρ S => tc ρ S fun b S1 => Br b (t E ρ S1) (u E ρ S1)
theorem ws_if {k : Expr} {a b : List Stmt} {tc : TTp} (hc : WT X k tc) (ha : WSs X a t) (hb : WSs X b u) : WS X (.If k a b pos) (tIfP tc t u) := by
  refine ⟨fun c => ps_w (ps_if (hc.pt c) (ha.ps c) (hb.ps c)) fun D σ H ⟨μ, ρ, S, E, f, h, q⟩ => ?_⟩
  refine ⟨μ, ρ, S, _, f, h, fun k S1 h1 μ1 H1 p1 f1 g1 => ?_⟩
  cases k with
  | true => exact iteT ⟨μ1, ρ, S1, E, f1, h1, q.sub p1 g1⟩
  | false => exact iteF ⟨μ1, ρ, S1, E, f1, h1, q.sub p1 g1⟩

/-- an if that goes on behind itself, both ways -/
@[irreducible] def tIfJ (tc : TTp) (t u : TSp) : TSp := tIfP tc t u
theorem tifj_ {tc : TTp} {t u : TSp} {E : EndsP} {ρ : Rho} {S : Sto} (h : tIfP tc t u E ρ S) : tIfJ tc t u E ρ S := by
  unfold tIfJ; exact h
theorem ws_ifJ {k : Expr} {a b : List Stmt} {tc : TTp} (hc : WT X k tc) (ha : WSs X a t) (hb : WSs X b u) : WS X (.If k a b pos) (tIfJ tc t u) := by
  unfold tIfJ; exact ws_if hc ha hb

/-! ### stores -/
@[reducible] def tSt (i : Nat) (te : TEp) : TSp := fun E ρ S => te ρ S fun x S1 => E.nx (setR ρ i (some x)) S1
theorem ws_set {i : Nat} {x : Str} {pos' : Pos} (hN : X.N.Nodup) (hi : X.N[i]? = some x) (hx : Loc X.env.scope x) (he : WE X e te) (hs : swapsWith e (some (.Name x pos')) pos.line X.env = pure false := by rfl) (hf : X.fn x = true ∨ X.env.scope.names.lookup x = some .local := by first | exact .inl rfl | exact .inr rfl | assumption) :
    WS X (.Assign [.Name x pos'] e pos) (tSt i te) := by
  refine ⟨fun c => ps_w (ps_set hN hi hx (he.pe c) hs hf) fun D σ H ⟨μ, ρ, S, E, f, h, q⟩ => ?_⟩
  exact ⟨μ, ρ, S, _, f, h, fun x S1 h1 μ1 v1 H1 p1 f1 r1 g1 => q.nx _ S1 h1 μ1 _ H1 p1 (f1.set r1) g1⟩
/-- the same, to be stopped at -/
@[irreducible] def tStJ (i : Nat) (te : TEp) : TSp := tSt i te
theorem stj_ {i : Nat} {te : TEp} {E : EndsP} {ρ : Rho} {S : Sto} (h : te ρ S fun x S1 => E.nx (setR ρ i (some x)) S1) : tStJ i te E ρ S := by
  unfold tStJ; exact h
theorem ws_setJ {i : Nat} {x : Str} {pos' : Pos} (hN : X.N.Nodup) (hi : X.N[i]? = some x) (hx : Loc X.env.scope x) (he : WE X e te) (hs : swapsWith e (some (.Name x pos')) pos.line X.env = pure false := by rfl) (hf : X.fn x = true ∨ X.env.scope.names.lookup x = some .local := by first | exact .inl rfl | exact .inr rfl | assumption) :
    WS X (.Assign [.Name x pos'] e pos) (tStJ i te) := by
  unfold tStJ; exact ws_set hN hi hx he hs hf
/-- a new list is stored: a cell -/
@[reducible] def tStN (i : Nat) (te : TNp) : TSp := fun E ρ S => te ρ S fun xs S1 => E.nx (setR ρ i (some (.cel (lenS S1)))) (snocS S1 (.lst xs))
theorem stN_up {i : Nat} {c : FP} {μ : List Addr} {ρ : Rho} {S : Sto} {E : EndsP} {σ : L2.St} {H : Hp} {D : Ends} {te : TNp} (f : Fr X.K c μ ρ S σ H) (h : tStN i te E ρ S) (q : RetS X.K c E μ H D) :
    upN X.K c te σ H (fun v H1 => D.nx (σ.set i (some v)) H1) := by
  refine ⟨μ, ρ, S, _, f, h, fun xs S1 h1 μ1 p vs H1 p1 f1 hp np no rr g1 => ?_⟩
  refine q.nx _ _ h1 (μ1 ++ [p]) _ H1 (p1.trans ⟨[p], rfl⟩) ((f1.newCell hp np no rr).set ⟨p, ?_, rfl⟩) g1
  rw [lenS_eq, paired_len f1.cel]; simp
theorem ws_setN {i : Nat} {x : Str} {pos' : Pos} {te : TNp} (hN : X.N.Nodup) (hi : X.N[i]? = some x) (hx : Loc X.env.scope x) (he : WN X e te) (hs : swapsWith e (some (.Name x pos')) pos.line X.env = pure false := by rfl) (hf : X.fn x = true ∨ X.env.scope.names.lookup x = some .local := by first | exact .inl rfl | exact .inr rfl | assumption) :
    WS X (.Assign [.Name x pos'] e pos) (tStN i te) :=
  ⟨fun c => ps_w (ps_set hN hi hx (he.pe c) hs hf) fun D σ H ⟨μ, ρ, S, E, f, h, q⟩ => stN_up f h q⟩
/-- targets of data -/
abbrev TGp := PyData → Rho → (Rho → Prop) → Prop
abbrev TGsp := List PyData → Rho → (Rho → Prop) → Prop
def Off (ws : List Nat) (σ σ' : L2.St) : Prop := σ'.length = σ.length ∧ ∀ i, i ∉ ws → σ'[i]? = σ[i]?
def upG (K : PySem.W.Frag) (c : FP) (ws : List Nat) (g : TGp) : TG := fun v σ H Q => ∃ μ ρ S x R, Fr K c μ ρ S σ H ∧ Rep K H x v ∧ g x ρ R ∧ ∀ ρ', R ρ' → ∀ σ', Fr K c μ ρ' S σ' H → Off ws σ σ' → Q σ' H
def upGs (K : PySem.W.Frag) (c : FP) (ws : List Nat) (g : TGsp) : TGs := fun vs σ H Q => ∃ μ ρ S xs R, Fr K c μ ρ S σ H ∧ Reps K H xs vs ∧ g xs ρ R ∧ ∀ ρ', R ρ' → ∀ σ', Fr K c μ ρ' S σ' H → Off ws σ σ' → Q σ' H
structure WG (X : Cx) (tg : Expr) (ws : List Nat) (g : TGp) : Prop where
  pg : ∀ c, PG X tg (upG X.K c ws g)
structure WGs (X : Cx) (tgs : List Expr) (ws : List Nat) (g : TGsp) : Prop where
  pg : ∀ c, PGs X tgs (upGs X.K c ws g)
theorem pg_w {tg : Expr} {t t' : TG} (h : PG X tg t) (w : ∀ v σ H Q, t' v σ H Q → t v σ H Q) : PG X tg t' := ⟨fun pins s σ H v u Q I r q => h.run pins s σ H v u Q I r (w v σ H Q q)⟩
theorem pgs_w {tg : List Expr} {t t' : TGs} (h : PGs X tg t) (w : ∀ v σ H Q, t' v σ H Q → t v σ H Q) : PGs X tg t' := ⟨fun pins s σ H vs us Q I r q => h.run pins s σ H vs us Q I r (w vs σ H Q q)⟩
theorem Off.refl (ws : List Nat) (σ : L2.St) : Off ws σ σ := ⟨rfl, fun _ _ => rfl⟩
theorem Off.one (i : Nat) (v : Option V) (σ : L2.St) : Off [i] σ (σ.set i v) := ⟨by simp, fun j hj => by rw [List.getElem?_set_ne]; intro z; exact hj (by simp [z])⟩
theorem Off.trans {a b : List Nat} {σ σ1 σ2 : L2.St} (x : Off a σ σ1) (y : Off b σ1 σ2) : Off (a ++ b) σ σ2 :=
  ⟨y.1.trans x.1, fun i hi => (y.2 i fun z => hi (List.mem_append_right _ z)).trans (x.2 i fun z => hi (List.mem_append_left _ z))⟩
@[reducible] def gNm (i : Nat) : TGp := fun x ρ R => R (setR ρ i (some (.d x)))
theorem wg_name {i : Nat} {x : Str} (hN : X.N.Nodup) (hi : X.N[i]? = some x) (hx : Loc X.env.scope x) (hf : X.fn x = true ∨ X.env.scope.names.lookup x = some .local := by first | exact .inl rfl | exact .inr rfl | assumption) : WG X (.Name x pos) [i] (gNm i) :=
  ⟨fun c => pg_w (pg_name hN hi hx hf) fun v σ H Q ⟨μ, ρ, S, x, R, f, r, h, q⟩ => q _ h _ (f.set r) (.one _ _ _)⟩
@[reducible] def gNl : TGsp := fun xs ρ R => match xs with
  | [] => R ρ
  | _ => False
@[reducible] def gCn (g : TGp) (u : TGsp) : TGsp := fun xs ρ R => match xs with
  | x :: r => g x ρ fun ρ1 => u r ρ1 R
  | [] => False
/-- xs has n items, and p -/
structure LenIs {α : Type} (xs : List α) (n : Nat) (p : Prop) : Prop where
  len : xs.length = n
  yes : p
theorem LenIs.out {α : Type} {xs : List α} {n : Nat} {p : Prop} (h : LenIs xs n p) : xs.length = n ∧ p := ⟨h.len, h.yes⟩
theorem lenI {α : Type} {xs : List α} {n : Nat} {p : Prop} (h : p) (e : xs.length = n := by simp) : LenIs xs n p := ⟨e, h⟩
@[reducible] def gTp (n : Nat) (u : TGsp) : TGp := fun x ρ R => match x with
  | .tuple xs => LenIs xs n (u xs ρ R)
  | _ => False
theorem wgs_nil : WGs X [] [] gNl := by
  refine ⟨fun c => pgs_w pgs_nil fun v σ H Q ⟨μ, ρ, S, xs, R, f, r, h, q⟩ => ?_⟩
  cases xs with
  | nil => exact ⟨r, q ρ h σ f (.refl _ _)⟩
  | cons _ _ => exact h.elim
theorem wgs_cons {tg : Expr} {tgs : List Expr} {ws us : List Nat} {g : TGp} {u : TGsp} (h1 : WG X tg ws g) (h2 : WGs X tgs us u)
    (hs : (assignEach (tg :: tgs) X.env).map (·.2) = assign tg X.env :: (assignEach tgs X.env).map (·.2) := by rfl) : WGs X (tg :: tgs) (ws ++ us) (gCn g u) := by
  refine ⟨fun c => pgs_w (pgs_cons (h1.pg c) (h2.pg c) hs) fun v σ H Q ⟨μ, ρ, S, xs, R, f, r, h, q⟩ => ?_⟩
  cases xs with
  | nil => exact h.elim
  | cons x xs =>
    obtain ⟨v, ws', rfl, r1, r2⟩ := r
    exact ⟨v, ws', rfl, μ, ρ, S, x, _, f, r1, h, fun ρ1 h1 σ1 f1 o1 => ⟨μ, ρ1, S, xs, _, f1, r2, h1, fun ρ2 h2 σ2 f2 o2 => q ρ2 h2 σ2 f2 (o1.trans o2)⟩⟩
theorem wg_tup {tgs : List Expr} {k n : Nat} {ws : List Nat} {u : TGsp} (hc : X.calm = true) (h : WGs X tgs ws u) (hn : (assignEach tgs X.env).length = n := by rfl) (hst : (assignEach tgs X.env).findIdx? (·.1) = none := by rfl) :
    WG X (.Tuple tgs k pos) ws (gTp n u) := by
  refine ⟨fun c => pg_w (pg_tup hc (h.pg c) hn hst) fun v σ H Q ⟨μ, ρ, S, x, R, f, r, h, q⟩ => ?_⟩
  cases x with
  | tuple xs =>
    obtain ⟨a, vs, rfl, s, rr⟩ := r
    obtain ⟨hl, h⟩ := LenIs.out h
    exact ⟨a, vs, rfl, s, by rw [← rr.length, hl], μ, ρ, S, xs, R, f, rr, h, q⟩
  | _ => exact h.elim
/-- target = value -/
@[reducible] def tAs (te : TEp) (g : TGp) : TSp := fun E ρ S => te ρ S fun x S1 => match x with
  | .d y => g y ρ fun ρ1 => E.nx ρ1 S1
  | .cel _ => False
theorem ws_asg {tg : Expr} {ws : List Nat} {g : TGp} (he : WE X e te) (hg : WG X tg ws g) (hs : swapsWithSole [tg] e pos.line X.env = pure false := by rfl) (hw : swappedStores [tg] e X.env = pure none := by rfl)
    (h1 : (assignEach [tg] X.env).map (·.2) = [assign tg X.env] := by rfl) : WS X (.Assign [tg] e pos) (tAs te g) := by
  refine ⟨fun c => ps_w (ps_asg (he.pe c) (hg.pg c) hs hw h1) fun D σ H ⟨μ, ρ, S, E, f, h, q⟩ => ?_⟩
  refine ⟨μ, ρ, S, _, f, h, fun x S1 h1 μ1 v1 H1 p1 f1 r1 g1 => ?_⟩
  cases x with
  | d y => exact ⟨μ1, ρ, S1, y, _, f1, r1, h1, fun ρ1 h2 σ1 f2 _ => q.nx ρ1 S1 h2 μ1 σ1 H1 p1 f2 g1⟩
  | cel _ => exact h1.elim
/-- a, b = x, y -/
@[reducible] def tPr (i j : Nat) (ta : TAp) : TSp := fun E ρ S => ta ρ S fun xs S1 => match xs with
  | [x, y] => E.nx (setR (setR ρ i (some x)) j (some y)) S1
  | _ => False
theorem ws_par {i j n : Nat} {x y : Str} {a b : Expr} {ta : TAp} {px py pt : Pos} {kt k2 pt2} (hc : X.calm = true) (hN : X.N.Nodup) (hi : X.N[i]? = some x) (hj : X.N[j]? = some y) (hij : i ≠ j)
    (hx : X.env.scope.names.lookup x = some .local) (hy : X.env.scope.names.lookup y = some .local) (ha : WA X [a, b] n ta)
    (hw : swappedStores [.Tuple [.Name x px, .Name y py] kt pt] (.Tuple [a, b] k2 pt2) X.env = pure (some [x, y]))
    (hs : swapsWithSole [.Tuple [.Name x px, .Name y py] kt pt] (.Tuple [a, b] k2 pt2) pos.line X.env = pure false := by rfl) :
    WS X (.Assign [.Tuple [.Name x px, .Name y py] kt pt] (.Tuple [a, b] k2 pt2) pos) (tPr i j ta) := by
  refine ⟨fun c => ps_w (L2.ps_par hc hN hi hj hij hx hy (ha.pa c) hw hs) fun D σ H ⟨μ, ρ, S, E, f, h, q⟩ => ?_⟩
  refine ⟨μ, ρ, S, _, f, h, fun xs S1 h1 hl μ1 vs H1 p1 f1 r1 g1 => ?_⟩
  match xs, r1, h1 with
  | [x, y], .cons rx (.cons ry .nil), h1 => exact ⟨_, _, rfl, q.nx _ S1 h1 μ1 _ H1 p1 ((f1.set rx).set ry) g1⟩
@[reducible] def tPr3 (i j l : Nat) (ta : TAp) : TSp := fun E ρ S => ta ρ S fun xs S1 => match xs with
  | [x, y, z] => E.nx (setR (setR (setR ρ i (some x)) j (some y)) l (some z)) S1
  | _ => False
theorem ws_par3 {i j l n : Nat} {x y z : Str} {a b k : Expr} {ta : TAp} {px py pz pt : Pos} {kt k2 pt2} (hc : X.calm = true) (hN : X.N.Nodup) (hi : X.N[i]? = some x) (hj : X.N[j]? = some y) (hl : X.N[l]? = some z) (hij : i ≠ j) (hil : i ≠ l) (hjl : j ≠ l)
    (hx : X.env.scope.names.lookup x = some .local) (hy : X.env.scope.names.lookup y = some .local) (hz : X.env.scope.names.lookup z = some .local) (ha : WA X [a, b, k] n ta)
    (hw : swappedStores [.Tuple [.Name x px, .Name y py, .Name z pz] kt pt] (.Tuple [a, b, k] k2 pt2) X.env = pure (some [x, y, z]))
    (hs : swapsWithSole [.Tuple [.Name x px, .Name y py, .Name z pz] kt pt] (.Tuple [a, b, k] k2 pt2) pos.line X.env = pure false := by rfl) :
    WS X (.Assign [.Tuple [.Name x px, .Name y py, .Name z pz] kt pt] (.Tuple [a, b, k] k2 pt2) pos) (tPr3 i j l ta) := by
  refine ⟨fun c => ps_w (L2.ps_par3 hc hN hi hj hl hij hil hjl hx hy hz (ha.pa c) hw hs) fun D σ H ⟨μ, ρ, S, E, f, h, q⟩ => ?_⟩
  refine ⟨μ, ρ, S, _, f, h, fun xs S1 h1 hl μ1 vs H1 p1 f1 r1 g1 => ?_⟩
  match xs, r1, h1 with
  | [x, y, z], .cons rx (.cons ry (.cons rz .nil)), h1 => exact ⟨_, _, _, rfl, q.nx _ S1 h1 μ1 _ H1 p1 (((f1.set rx).set ry).set rz) g1⟩
/-- x op= e -/
@[reducible] def tAu (i : Nat) (p : OpD) (te : TEp) : TSp := fun E ρ S => match sltAt ρ i with
  | some x => te ρ S fun y S1 => match x, vw S1 y with
    | .d a, some b => p a b fun r => E.nx (setR ρ i (some (.d r))) S1
    | _, _ => False
  | none => False
theorem ws_aug {i : Nat} {x : Str} {op : Operator} {r : R2} {p : OpD} {pos' : Pos} (hN : X.N.Nodup) (hi : X.N[i]? = some x) (hx : Loc X.env.scope x) (he : WE X e te) (ho : OpR X (inplaceOp op) r) (hp : OpdOk X.K r p)
    (hr : ∀ x y H Q Q', (∀ v H1, (∀ a, v ≠ .ref a) → Q v H1 → Q' v H1) → r x y H Q → r x y H Q')
    (hf : X.fn x = true ∨ X.env.scope.names.lookup x = some .local := by first | exact .inl rfl | exact .inr rfl | assumption) : WS X (.AugAssign (.Name x pos') op e pos) (tAu i p te) := by
  refine ⟨fun c => ps_w (L2.ps_aug hN hi hx (he.pe c) ho hf) fun D σ H ⟨μ, ρ, S, E, f, h, q⟩ => ?_⟩
  unfold tAu at h
  split at h
  · rename_i pv e
    obtain ⟨v, hv, rv⟩ := f.slot (sltAt_get e)
    refine ⟨v, hv, μ, ρ, S, _, f, h, fun y S1 h1 μ1 v1 H1 p1 f1 r1 g1 => ?_⟩
    split at h1
    · rename_i a b e2
      have rv1 : Rep X.K H1 a v := Rep.mono g1 _ _ rv
      have base := hp H1 a b v v1 _ (Fz fun z H2 => D.nx (σ.set i (some z)) H2) rv1.read (vw_rep f1 r1 e2) h1 ⟨fun r w H2 hk rep same => .inl (q.nx _ S1 hk μ1 _ H2 p1 ((f1.same same).set (x := .d r) rep) (g1.trans (.of_same same))), fun xs a' vs hk hn reps => .inr ⟨a', vs, rfl, upd_same, fun o => by
        rw [upd_upd]
        exact q.nx _ S1 hk μ1 _ _ p1 ((f1.same (same_new hn)).set (x := .d (.list xs)) ⟨a', vs, rfl, .inl ⟨o, upd_same⟩, Reps.mono (.new hn) _ _ reps⟩) (g1.trans (.new hn))⟩⟩
      refine hr _ _ _ _ _ (fun z H2 nz w => ?_) base
      rcases w with w | ⟨a', vs, rfl, _⟩
      · exact w
      · exact absurd rfl (nz a')
    · exact h1.elim
  · exact h.elim
@[reducible] def setD : List PyData → Nat → PyData → List PyData
  | [], _, _ => []
  | _ :: r, 0, x => x :: r
  | y :: r, i + 1, x => y :: setD r i x
@[reducible] def snocD : List PyData → PyData → List PyData
  | [], c => [c]
  | y :: r, c => y :: snocD r c
/-- a written place of a list -/
@[reducible] def inD : List PyData → Nat → Option Nat
  | [], _ => none
  | _ :: _, 0 => some .zero
  | _ :: r, i + 1 => match inD r i with
    | some j => some (.succ j)
    | none => none
@[reducible] def ixR (xs : List PyData) : Int → Option Nat
  | .ofNat n => inD xs n
  | .negSucc _ => none
theorem setD_eq : ∀ (ρ : List PyData) (i : Nat) (x : PyData), setD ρ i x = ρ.set i x
  | [], _, _ => by simp [setD]
  | _ :: _, 0, _ => by simp [setD]
  | _ :: r, i + 1, x => by simp [setD, setD_eq r i x]
theorem snocD_eq : ∀ (S : List PyData) (x : PyData), snocD S x = S ++ [x]
  | [], _ => rfl
  | y :: r, x => by rw [snocD, snocD_eq r x]; rfl
theorem inD_eq : ∀ {xs : List PyData} {i j : Nat}, inD xs i = some j → j = i ∧ i < xs.length
  | [], _, _, h => by simp [inD] at h
  | _ :: _, 0, j, h => by
    have h' : Nat.zero = j := Option.some.inj h
    exact ⟨h'.symm, by simp⟩
  | _ :: r, i + 1, j, h => by
    simp only [inD] at h
    split at h
    · rename_i k e
      obtain ⟨a, b⟩ := inD_eq e
      cases h
      exact ⟨by rw [a], by simpa using b⟩
    · cases h
theorem ixR_eq {xs : List PyData} {k : Int} {m : Nat} (h : ixR xs k = some m) : ixN xs.length k = some m := by
  cases k with
  | ofNat n =>
    obtain ⟨a, b⟩ := inD_eq h
    subst a
    unfold ixN
    have h1 : (0 : Int) ≤ Int.ofNat m := Int.natCast_nonneg m
    have h2 : Int.ofNat m < (xs.length : Int) := by
      show ((m : Nat) : Int) < _
      omega
    rw [if_pos h1, if_pos h2]; rfl
  | negSucc n => simp [ixR] at h
/-- o[i] = e, o a list cell -/
@[reducible] def tSb (to ti te : TEp) : TSp := fun E ρ S => te ρ S fun v S1 => to ρ S1 fun o S2 => ti ρ S2 fun i S3 => match o, i, v with
  | .cel j, .d (.int k), .d y => match cellAt S3 j with
    | some (.lst xs) => match ixR xs k with
      | some m => E.nx ρ (setS S3 j (.lst (setD xs m y)))
      | none => False
    | _ => False
  | _, _, _ => False
theorem ws_sub {o i : Expr} {to ti : TEp} {pos2 : Pos} (ho : WE X o to) (hi : WE X i ti) (he : WE X e te)
    (ha : ∀ v, assign (.Subscript o i pos2) X.env v = (do
      let ov ← holding [v] (eval o X.env)
      let iv ← holding [v, ov] (eval i X.env)
      standAt pos2
      holding [v, ov, iv] (setItem ov iv v)
      release [v, ov, iv] []) := by intro _; rfl)
    (hs : swapsWithSole [.Subscript o i pos2] e pos.line X.env = pure false := by rfl) (hw : swappedStores [.Subscript o i pos2] e X.env = pure none := by rfl) : WS X (.Assign [.Subscript o i pos2] e pos) (tSb to ti te) := by
  refine ⟨fun c => ps_w (ps_asg (he.pe c) (pg_sub (ho.pe c) (hi.pe c) set_list ha) hs hw) fun D σ H ⟨μ, ρ, S, E, f, h, q⟩ => ?_⟩
  refine ⟨μ, ρ, S, _, f, h, fun v S1 h1 μ1 v1 H1 p1 f1 r1 g1 => ⟨μ1, ρ, S1, _, f1, h1, fun ov S2 h2 μ2 v2 H2 p2 f2 r2 g2 => ⟨μ2, ρ, S2, _, f2, h2, fun iv S3 h3 μ3 v3 H3 p3 f3 r3 g3 => ?_⟩⟩⟩
  split at h3
  · rename_i j k y
    obtain ⟨a, ha, rfl⟩ := r2
    rw [cellAt_get] at h3
    split at h3
    · rename_i xs e1
      split at h3
      · rename_i m e2
        obtain ⟨a', ha', vs, e3, rr⟩ := f3.at e1
        have ha3 := p3.get ha
        rw [ha3] at ha'; cases ha'
        have r1' : Rep X.K H3 y v1 := Rep.mono (g2.trans g3) _ _ r1
        obtain ⟨f4, g4⟩ := f3.write (o := .lst (vs.set m v1)) (y := .lst (setD xs m y)) e1 ha3 ⟨_, upd_same, by rw [setD_eq]; exact Reps.mono (.put e3) _ _ (Reps.set r1' m rr)⟩
        exact ⟨a, vs, k, m, rfl, r3, e3, by rw [← rr.length]; exact ixR_eq e2, q.nx _ _ h3 μ3 σ _ (p1.trans (p2.trans p3)) f4 (g1.trans (g2.trans (g3.trans g4)))⟩
      · exact h3.elim
    · exact h3.elim
  · exact h3.elim
/-- o.append(e), o a name that holds a list cell -/
@[reducible] def tAp (i : Nat) (te : TEp) : TEp := fun ρ S R => match sltAt ρ i with
  | some (.cel j) => match cellAt S j with
    | some (.lst _) => te ρ S fun v S2 => match v with
      | .d y => match cellAt S2 j with
        | some (.lst xs) => xs.length < sizeLine ∧ R (.d .none) (setS S2 j (.lst (snocD xs y)))
        | _ => False
      | _ => False
    | _ => False
  | _ => False
theorem w_append {i : Nat} {o a : Expr} {ta : TEp} {apos cpos : Pos} (ha : WE X a ta) (hp : ∀ t, PE X a t → PE X (.Call (.Attribute o "append" apos) [a] [] cpos) (tBM X.K "list" rAppend (tVar i) (tCons t tNil))) :
    WE X (.Call (.Attribute o "append" apos) [a] [] cpos) (tAp i ta) := by
  refine ⟨fun c => pe_w (hp _ (ha.pe c)) fun σ H Q ⟨μ, ρ, S, R, f, h, q⟩ => ?_⟩
  unfold tAp at h
  split at h
  · rename_i j e0
    obtain ⟨v1, hv, a, ha, rfl⟩ := f.slot (sltAt_get e0)
    split at h
    · rename_i xs0 e1
      rw [cellAt_get] at e1
      obtain ⟨a', ha', vs, e3, rr⟩ := f.at e1
      rw [ha] at ha'; cases ha'
      refine ⟨_, hv, .inl ⟨rfl, _, .of e3⟩, μ, ρ, S, _, f, h, fun y S2 h2 μ2 v2 H2 p2 f2 r2 g2 => ?_⟩
      split at h2
      · rename_i y'
        rw [cellAt_get] at h2
        split at h2
        · rename_i ys e4
          obtain ⟨hz, h2⟩ := h2
          obtain ⟨a', ha', ws, e5, rr2⟩ := f2.at e4
          have ha3 := p2.get ha
          rw [ha3] at ha'; cases ha'
          obtain ⟨f4, g4⟩ := f2.write (o := .lst (ws ++ [v2])) (y := .lst (snocD ys y')) e4 ha3 ⟨_, upd_same, by rw [snocD_eq]; exact Reps.mono (.put e5) _ _ (rr2.append (.one r2))⟩
          refine ⟨a, ws, v2, rfl, rfl, e5, by rw [← rr2.length]; exact hz, ?_⟩
          exact q (.d .none) _ h2 μ2 .non _ p2 f4 rfl (g2.trans g4)
        · exact h2.elim
      · exact h2.elim
    · exact h.elim
  · exact h.elim
end
end Pu

set_option autoImplicit false
namespace Pu
open PySem PySem.Spec PyProof.Rows L2

/-! ### what is walked -/
/-- from H on (whatever is added to it) the iterator gives just these items -/
structure ItIs (K : PySem.W.Frag) (J : It) (items : List PyData) (H : Hp) : Prop where
  go : ∀ H1, Ge H H1 → ∀ i, i < items.length → J.go i H1
  yld : ∀ H1, Ge H H1 → ∀ i d, items[i]? = some d → ∀ v H', J.yld i H1 v H' → Rep K H' d v ∧ Same H1 H'
  stop : ∀ H1, Ge H H1 → J.stop items.length H1
abbrev TIp := Rho → Sto → (List PyData → Sto → Prop) → Prop
structure WI (X : Cx) (tg iter : Expr) (ti : TIp) : Prop where
  ex : ∀ c, ∃ wi, PI X tg iter wi ∧ ∀ μ ρ S σ H R (Q : It → Hp → Prop), Fr X.K c μ ρ S σ H → ti ρ S R →
    (∀ items S1, R items S1 → ∀ μ1 H1 J, Pre μ μ1 → Fr X.K c μ1 ρ S1 σ H1 → Ge H H1 → ItIs X.K J items H1 → Q J H1) → wi σ H Q
section
variable {K : PySem.W.Frag} {J : It} {items : List PyData} {vs : List V} {H : Hp}
theorem itIs_at {n : Nat} {G : Hp → Prop} {f : Nat → Option V} (w : Walk J n G (fun i H x H' => H' = H ∧ f i = some x)) (hn : items.length = n) (hg : ∀ H1, Ge H H1 → G H1) (hr : ∀ i d v, items[i]? = some d → f i = some v → Rep K H d v) : ItIs K J items H :=
  ⟨fun H1 g i hi => w.goes i H1 (by omega) (hg H1 g), fun H1 g i d hd v H' y => by
    have hi : i < n := by rw [← hn]; exact (List.getElem?_eq_some_iff.mp hd).1
    obtain ⟨e, z⟩ := w.yields i H1 v H' hi (hg H1 g) y
    subst e
    exact ⟨Rep.mono g _ _ (hr i d v hd z), .refl _⟩, fun H1 g => by rw [hn]; exact w.stops H1 (hg H1 g)⟩
theorem itIs_pair {n : Nat} {G : Hp → Prop} {f g : Nat → Option V} {a b : Nat → Option PyData} (w : Walk J n G (YPair f g)) (hn : items.length = n) (hg : ∀ H1, Ge H H1 → G H1) (hi : ∀ i d, items[i]? = some d → ∃ x y, d = .tuple [x, y] ∧ a i = some x ∧ b i = some y)
    (ha : ∀ i x v, a i = some x → f i = some v → Rep K H x v) (hb : ∀ i x v, b i = some x → g i = some v → Rep K H x v) : ItIs K J items H :=
  ⟨fun H1 q i hl => w.goes i H1 (by omega) (hg H1 q), fun H1 q i d hd v H' y => by
    have hl : i < n := by rw [← hn]; exact (List.getElem?_eq_some_iff.mp hd).1
    obtain ⟨T, x, z, rfl, nT, rfl, e1, e2⟩ := w.yields i H1 v H' hl (hg H1 q) y
    obtain ⟨dx, dy, rfl, h1, h2⟩ := hi i d hd
    exact ⟨⟨T, [x, z], rfl, .of upd_same, ⟨x, [z], rfl, Rep.mono (q.trans (.new nT)) _ _ (ha i dx x h1 e1), z, [], rfl, Rep.mono (q.trans (.new nT)) _ _ (hb i dy z h2 e2), rfl⟩⟩, same_new nT⟩, fun H1 q => by rw [hn]; exact w.stops H1 (hg H1 q)⟩
theorem Reps.at {ds : List PyData} {vs : List V} (r : Reps K H ds vs) {i : Nat} {d : PyData} {v : V} (h1 : ds[i]? = some d) (h2 : vs[i]? = some v) : Rep K H d v := by
  obtain ⟨u, e, q⟩ := r.get h1
  rw [h2] at e; cases e; exact q
end
section
variable {X : Cx} {tg : Expr} {e e2 : Expr} {te : TEp} {pos p : Pos}
/-- a list -/
@[reducible] def iLs (te : TEp) : TIp := fun ρ S R => te ρ S fun x S1 => match x with
  | .d (.list xs) => R xs S1
  | _ => False
theorem wi_list (h : WE X e te) : WI X tg e (iLs te) := by
  refine ⟨fun c => ⟨_, pi_list (h.pe c), fun μ ρ S σ H R Q f h q => ?_⟩⟩
  refine ⟨μ, ρ, S, _, f, h, fun x S1 h1 μ1 v1 H1 p1 f1 r1 g1 => ?_⟩
  split at h1
  · rename_i xs
    obtain ⟨a, vs, rfl, s, rr⟩ := r1
    refine ⟨a, rfl, ⟨vs, s.seq⟩, q xs S1 h1 μ1 H1 _ p1 f1 g1 (itIs_at (f := fun i => vs[i]?) walk_list rr.length (fun H2 g => (s.mono g).seq) fun i d v e1 e2 => rr.at e1 e2)⟩
  · exact h1.elim
/-- a tuple -/
@[reducible] def iTp (te : TEp) : TIp := fun ρ S R => te ρ S fun x S1 => match x with
  | .d (.tuple xs) => R xs S1
  | _ => False
theorem wi_tup (h : WE X e te) : WI X tg e (iTp te) := by
  refine ⟨fun c => ⟨_, pi_tup (h.pe c), fun μ ρ S σ H R Q f h q => ?_⟩⟩
  refine ⟨μ, ρ, S, _, f, h, fun x S1 h1 μ1 v1 H1 p1 f1 r1 g1 => ?_⟩
  split at h1
  · rename_i xs
    obtain ⟨a, vs, rfl, s, rr⟩ := r1
    refine ⟨a, rfl, ⟨vs, s⟩, q xs S1 h1 μ1 H1 _ p1 f1 g1 (itIs_at (f := fun i => vs[i]?) walk_tup rr.length (fun H2 g => sqT_mono g s) fun i d v e1 e2 => rr.at e1 e2)⟩
  · exact h1.elim
def rngD (lo : Int) (n : Nat) : List PyData := (List.range n).map fun i => .int (lo + (i : Nat))
theorem itIs_range {K : PySem.W.Frag} {H : Hp} {lo : Int} {n : Nat} : ItIs K (Itr lo n) (rngD lo n) H := by
  refine itIs_at (n := n) (G := fun _ => True) (f := fun i => some (.int (lo + (i : Nat)))) ?_ (by simp [rngD]) (fun _ _ => trivial) fun i d v h1 h2 => ?_
  · exact walk_range.mono (fun _ h => h) fun i H x H' _ _ y => ⟨y.1, by rw [y.2]⟩
  · simp only [rngD, List.getElem?_map, Option.map_eq_some_iff] at h1
    obtain ⟨j, hj, rfl⟩ := h1
    simp only [List.getElem?_eq_some_iff, List.getElem_range] at hj
    obtain ⟨_, rfl⟩ := hj
    cases h2; rfl
theorem rngD_at {lo : Int} {n i : Nat} {d : PyData} (h : (rngD lo n)[i]? = some d) : d = .int (lo + (i : Nat)) ∧ i < n := by
  simp only [rngD, List.getElem?_map, Option.map_eq_some_iff] at h
  obtain ⟨j, hj, rfl⟩ := h
  simp only [List.getElem?_eq_some_iff, List.getElem_range] at hj
  obtain ⟨hl, rfl⟩ := hj
  exact ⟨rfl, by simpa using hl⟩
theorem rngD_len {lo : Int} {n : Nat} : (rngD lo n).length = n := by simp [rngD]
@[reducible] def iRg1 (ta : TAp) : TIp := fun ρ S R => ta ρ S fun xs S1 => match xs with
  | [.d (.int j)] => (-(2 ^ 62) ≤ j ∧ j < 2 ^ 62) ∧ R (rngD 0 j.toNat) S1
  | _ => False
@[reducible] def iRg2 (ta : TAp) : TIp := fun ρ S R => ta ρ S fun xs S1 => match xs with
  | [.d (.int i), .d (.int j)] => (-(2 ^ 62) ≤ i ∧ i < 2 ^ 62 ∧ -(2 ^ 62) ≤ j ∧ j < 2 ^ 62) ∧ R (rngD i (j - i).toNat) S1
  | _ => False
theorem wi_range1 {ta : TAp} {n : Nat} (hg : Gl X "range") (hm : X.mg "range" = none) (ha : WA X [e] n ta) (hs : starEach [e] X.env = [(false, eval e X.env)] := by rfl) : WI X tg (.Call (.Name "range" p) [e] [] pos) (iRg1 ta) := by
  refine ⟨fun c => ⟨_, pi_range1 hg hm (ha.pa c) hs, fun μ ρ S σ H R Q f h q => ?_⟩⟩
  refine ⟨μ, ρ, S, _, f, h, fun xs S1 h1 hl μ1 vs H1 p1 f1 r1 g1 => ?_⟩
  split at h1
  · rename_i j
    match r1 with
    | .cons r .nil =>
      obtain ⟨⟨b1, b2⟩, h1⟩ := h1
      exact ⟨j, by rw [show _ = V.int j from r], b1, b2, q _ S1 h1 μ1 H1 _ p1 f1 g1 itIs_range⟩
  · exact h1.elim
theorem wi_range2 {ta : TAp} {n : Nat} (hg : Gl X "range") (hm : X.mg "range" = none) (ha : WA X [e, e2] n ta) (hs : starEach [e, e2] X.env = [(false, eval e X.env), (false, eval e2 X.env)] := by rfl) (hs2 : starEach [e2] X.env = [(false, eval e2 X.env)] := by rfl) :
    WI X tg (.Call (.Name "range" p) [e, e2] [] pos) (iRg2 ta) := by
  refine ⟨fun c => ⟨_, pi_range2 hg hm (ha.pa c) hs hs2, fun μ ρ S σ H R Q f h q => ?_⟩⟩
  refine ⟨μ, ρ, S, _, f, h, fun xs S1 h1 hl μ1 vs H1 p1 f1 r1 g1 => ?_⟩
  split at h1
  · rename_i i j
    match r1 with
    | .cons r (.cons r' .nil) =>
      obtain ⟨b, h1⟩ := h1
      exact ⟨i, j, by rw [show _ = V.int i from r, show _ = V.int j from r'], b, q _ S1 h1 μ1 H1 _ p1 f1 g1 itIs_range⟩
  · exact h1.elim
/-- zip of two lists -/
@[reducible] def zipD : List PyData → List PyData → List PyData
  | x :: xs, y :: ys => .tuple [x, y] :: zipD xs ys
  | _, _ => []
theorem zipD_len : ∀ xs ys : List PyData, (zipD xs ys).length = min xs.length ys.length
  | [], _ => by simp [zipD]
  | _ :: _, [] => by simp [zipD]
  | _ :: xs, _ :: ys => by rw [zipD, List.length_cons, zipD_len xs ys, List.length_cons, List.length_cons]; omega
theorem zipD_at : ∀ (xs ys : List PyData) (i : Nat) (d : PyData), (zipD xs ys)[i]? = some d → ∃ x y, d = .tuple [x, y] ∧ xs[i]? = some x ∧ ys[i]? = some y
  | [], _, i, d, h => by simp [zipD] at h
  | _ :: _, [], i, d, h => by simp [zipD] at h
  | x :: xs, y :: ys, 0, d, h => by simp [zipD] at h; exact ⟨x, y, h.symm, rfl, rfl⟩
  | x :: xs, y :: ys, i + 1, d, h => by
    have h' : (zipD xs ys)[i]? = some d := by simpa [zipD] using h
    obtain ⟨a, b, e, h1, h2⟩ := zipD_at xs ys i d h'
    exact ⟨a, b, e, h1, by simpa using h2⟩
@[reducible] def iZp (ta : TAp) : TIp := fun ρ S R => ta ρ S fun xs S1 => match xs with
  | [.d (.list xs), .d (.list ys)] => R (zipD xs ys) S1
  | _ => False
theorem itIs_zip {K : PySem.W.Frag} {H : Hp} {a b : Addr} {xs ys : List PyData} {us ws : List V} (s : SqF K H a us) (s' : SqF K H b ws) (rr : Reps K H xs us) (rr' : Reps K H ys ws) : ItIs K (Itz K a b) (zipD xs ys) H := by
  have w := walk_zip (K := K) (a := a) (b := b) (xs := us) (ys := ws) rfl
  refine itIs_pair (a := fun i => xs[i]?) (b := fun i => ys[i]?) w ?_ (fun H2 g => ⟨(s.mono g).seq, (s'.mono g).seq⟩) (fun i d hd => zipD_at xs ys i d hd) (fun i x v e1 e2 => rr.at e1 e2) (fun i x v e1 e2 => rr'.at e1 e2)
  rw [zipD_len, rr.length, rr'.length]
theorem wi_zip {ta : TAp} {n k : Nat} {elts : List Expr} {tpos : Pos} (ha : WA X [e, e2] n ta)
    (hp : ∀ t, PA X [e, e2] t → PI X (.Tuple elts k tpos) (.Call (.Name "zip" p) [e, e2] [] pos) (iZip X.K t)) : WI X (.Tuple elts k tpos) (.Call (.Name "zip" p) [e, e2] [] pos) (iZp ta) := by
  refine ⟨fun c => ⟨_, hp _ (ha.pa c), fun μ ρ S σ H R Q f h q => ?_⟩⟩
  refine ⟨μ, ρ, S, _, f, h, fun xs S1 h1 hl μ1 vs H1 p1 f1 r1 g1 => ?_⟩
  split at h1
  · rename_i xs ys
    cases r1 with
    | cons r r1 =>
      cases r1 with
      | cons r' r1 =>
        cases r1
        obtain ⟨a, us, e1, s, rr⟩ := r
        obtain ⟨b, ws, e2, s', rr'⟩ := r'
        exact ⟨a, b, us, ws, by rw [e1, e2], s.seq, s'.seq, q _ S1 h1 μ1 H1 _ p1 f1 g1 (itIs_zip s s' rr rr')⟩
  · exact h1.elim
@[reducible] def enumF : Nat → List PyData → List PyData
  | _, [] => []
  | n, x :: xs => .tuple [.int (n : Nat), x] :: enumF (n + 1) xs
@[reducible] def enumD (xs : List PyData) : List PyData := enumF 0 xs
theorem enumF_len : ∀ (n : Nat) (xs : List PyData), (enumF n xs).length = xs.length
  | _, [] => rfl
  | n, _ :: xs => by rw [enumF, List.length_cons, enumF_len (n + 1) xs, List.length_cons]
theorem enumF_at : ∀ (n : Nat) (xs : List PyData) (i : Nat) (d : PyData), (enumF n xs)[i]? = some d → ∃ x, d = .tuple [.int ((n + i : Nat) : Int), x] ∧ xs[i]? = some x
  | _, [], i, d, h => by simp [enumF] at h
  | n, x :: xs, 0, d, h => by simp [enumF] at h; exact ⟨x, by rw [← h]; simp, rfl⟩
  | n, x :: xs, i + 1, d, h => by
    have h' : (enumF (n + 1) xs)[i]? = some d := by simpa [enumF] using h
    obtain ⟨a, e, h1⟩ := enumF_at (n + 1) xs i d h'
    exact ⟨a, by rw [e]; congr 4; omega, h1⟩
@[reducible] def iEn (ta : TAp) : TIp := fun ρ S R => ta ρ S fun xs S1 => match xs with
  | [.d (.list xs)] => R (enumD xs) S1
  | _ => False
theorem itIs_enum {K : PySem.W.Frag} {H : Hp} {a : Addr} {xs : List PyData} {us : List V} (s : SqF K H a us) (rr : Reps K H xs us) : ItIs K (Ite K a) (enumD xs) H := by
  have w := walk_enum (K := K) (a := a) (xs := us)
  refine itIs_pair (a := fun i => some (.int ((i : Nat) : Int))) (b := fun i => xs[i]?) w ?_ (fun H2 g => (s.mono g).seq) (fun i d hd => ?_) (fun i x v e1 e2 => ?_) (fun i x v e1 e2 => rr.at e1 e2)
  · rw [enumD, enumF_len, rr.length]
  · obtain ⟨x, e, h⟩ := enumF_at 0 xs i d hd
    exact ⟨_, x, e, by simp, h⟩
  · have h1 : x = .int ((i : Nat) : Int) := (Option.some.inj e1).symm
    have h2 : v = .int ((i : Nat) : Int) := (Option.some.inj e2).symm
    subst h1; subst h2; rfl
theorem wi_enum {ta : TAp} {n k : Nat} {elts : List Expr} {tpos : Pos} (ha : WA X [e] n ta)
    (hp : ∀ t, PA X [e] t → PI X (.Tuple elts k tpos) (.Call (.Name "enumerate" p) [e] [] pos) (iEnum X.K t)) : WI X (.Tuple elts k tpos) (.Call (.Name "enumerate" p) [e] [] pos) (iEn ta) := by
  refine ⟨fun c => ⟨_, hp _ (ha.pa c), fun μ ρ S σ H R Q f h q => ?_⟩⟩
  refine ⟨μ, ρ, S, _, f, h, fun xs S1 h1 hl μ1 vs H1 p1 f1 r1 g1 => ?_⟩
  split at h1
  · rename_i xs
    cases r1 with
    | cons r r1 =>
      cases r1
      obtain ⟨a, us, e1, s, rr⟩ := r
      exact ⟨a, us, by rw [e1], s.seq, q _ S1 h1 μ1 H1 _ p1 f1 g1 (itIs_enum s rr)⟩
  · exact h1.elim
@[reducible] def iRv (ta : TAp) : TIp := fun ρ S R => ta ρ S fun xs S1 => match xs with
  | [.d (.list xs)] => R xs.reverse S1
  | _ => False
theorem itIs_rev {K : PySem.W.Frag} {H : Hp} {a : Addr} {xs : List PyData} {us : List V} (s : SqF K H a us) (rr : Reps K H xs us) : ItIs K (Itv K a us.length) xs.reverse H := by
  have w := (walk_rev (K := K) (a := a) (xs := us)).mono (G' := fun H => SqL K H a us) (Y' := fun i H x H' => H' = H ∧ (if i < us.length then us[us.length - 1 - i]? else none) = some x) (fun _ h => h) fun i H x H' hi _ y => ⟨y.1, by rw [if_pos hi]; exact y.2⟩
  refine itIs_at w (by rw [List.length_reverse, rr.length]) (fun H2 g => (s.mono g).seq) fun i d v e1 e2 => ?_
  have hi : i < xs.length := by
    have := (List.getElem?_eq_some_iff.mp e1).1
    rwa [List.length_reverse] at this
  rw [if_pos (by rw [← rr.length]; exact hi)] at e2
  rw [List.getElem?_reverse hi, rr.length] at e1
  exact rr.at e1 e2
theorem wi_rev {ta : TAp} {n : Nat} (hg : Gl X "reversed") (hm : X.mg "reversed" = none) (ha : WA X [e] n ta) (hs : starEach [e] X.env = [(false, eval e X.env)] := by rfl) : WI X tg (.Call (.Name "reversed" p) [e] [] pos) (iRv ta) := by
  refine ⟨fun c => ⟨_, pi_reversed hg hm (ha.pa c) hs, fun μ ρ S σ H R Q f h q => ?_⟩⟩
  refine ⟨μ, ρ, S, _, f, h, fun xs S1 h1 hl μ1 vs H1 p1 f1 r1 g1 => ?_⟩
  split at h1
  · rename_i xs
    cases r1 with
    | cons r r1 =>
      cases r1
      obtain ⟨a, us, e1, s, rr⟩ := r
      exact ⟨a, us, by rw [e1], s.seq, q _ S1 h1 μ1 H1 _ p1 f1 g1 (itIs_rev s rr)⟩
  · exact h1.elim

/-! ### for, while -/
/-- what is to hold behind a turn: as it is, or with slots and cells forgotten -/
def Nx (b : Nat) (I : Rho → Sto → Prop) : Rho → Sto → Prop := fun ρ S => I ρ S ∨ ∃ ρ' S', WkS b ρ S ρ' S' ∧ I ρ' S'
theorem Nx.out {K : PySem.W.Frag} {c : FP} {b : Nat} {I : Rho → Sto → Prop} {ρ : Rho} {S : Sto} {μ1 μ : List Addr} {σ : L2.St} {H : Hp} (h : Nx b I ρ S) (f : Fr K c μ ρ S σ H) (p : Pre μ1 μ) (hb : μ1.length = b) : ∃ μ' ρ' S', Pre μ1 μ' ∧ Fr K c μ' ρ' S' σ H ∧ I ρ' S' := by
  rcases h with h | ⟨ρ', S', w, h⟩
  · exact ⟨μ, ρ, S, p, f, h⟩
  · exact ⟨_, ρ', S', p.take (by rw [hb]; exact w.1), f.wk w, h⟩
/-- the turns of a for over these items -/
def FrB (g : TGp) (tb : TSp) (nx : Rho → Sto → Prop) (rt : PQ) (ρ0 : Rho) (items : List PyData) (S1 : Sto) : Prop := ∃ I : Nat → Rho → Sto → Prop, I 0 ρ0 S1 ∧
  (∀ i d ρ S, items[i]? = some d → I i ρ S → g d ρ fun ρ1 => tb ⟨Nx (lenS S1) (I (i + 1)), rt, nx, Nx (lenS S1) (I (i + 1))⟩ ρ1 S) ∧ ∀ ρ S, I items.length ρ S → nx ρ S
@[reducible] def tFr (ti : TIp) (g : TGp) (tb : TSp) : TSp := fun E ρ S => match E with | ⟨nx, rt, _, _⟩ => ti ρ S fun items S1 => FrB g tb nx rt ρ items S1
theorem ws_for {iter : Expr} {body : List Stmt} {ti : TIp} {ws : List Nat} {g : TGp} {tb : TSp} (hp : PassesOwn (model X.prog X.w) X.A X.env X.xe) (hc : X.calm = true) (hi : WI X tg iter ti) (hg : WG X tg ws g) (hb : WSs X body tb) (hs : ∀ x, foldedSetIterable iter X.env x = pure x := by intro _; rfl) : WS X (.For tg iter body [] pos) (tFr ti g tb) := by
  refine ⟨fun c => ?_⟩
  obtain ⟨wi, hpi, hw⟩ := hi.ex c
  refine ps_w (L2.ps_for hp hc hpi (hg.pg c) (hb.ps c) hs) fun D σ H ⟨μ, ρ, S, E, f, h, q⟩ => ?_
  refine hw μ ρ S σ H _ _ f h fun items S1 h1 μ1 H1 J p1 f1 g1 it => ?_
  obtain ⟨I, i0, step, done⟩ := h1
  refine ⟨fun i m σ' H' => m = items.length - i ∧ i ≤ items.length ∧ ∃ μ' ρ' S', Pre μ1 μ' ∧ Ge H1 H' ∧ Fr X.K c μ' ρ' S' σ' H' ∧ I i ρ' S', ⟨items.length, by simp, Nat.zero_le _, μ1, ρ, S1, .refl _, .refl _, f1, i0⟩, ?_⟩
  rintro i m σ' H' ⟨rfl, hle, μ', ρ', S', p', g', f', ii⟩
  by_cases hlt : i < items.length
  · refine .inr ⟨it.go H' g' i hlt, fun σ2 H2 => ∃ μ2 ρ2 S2, Pre μ1 μ2 ∧ Ge H1 H2 ∧ Fr X.K c μ2 ρ2 S2 σ2 H2 ∧ I (i + 1) ρ2 S2, fun σ2 H2 k => ⟨items.length - (i + 1), by omega, rfl, hlt, k⟩, fun x H2 y => ?_⟩
    have hd : items[i]? = some items[i] := by simp [hlt]
    obtain ⟨rx, same⟩ := it.yld H' g' i _ hd x H2 y
    refine ⟨μ', ρ', S', _, _, f'.same same, rx, step i _ ρ' S' hd ii, fun ρ3 h3 σ3 f3 _ => ⟨μ', ρ3, S', _, f3, h3, ?_⟩⟩
    have hb : μ1.length = lenS S1 := by rw [lenS_eq, paired_len f1.cel]
    have next : ∀ ρ4 S4, Nx (lenS S1) (I (i + 1)) ρ4 S4 → ∀ μ4 σ4 H4, Pre μ' μ4 → Fr X.K c μ4 ρ4 S4 σ4 H4 → Ge H2 H4 → ∃ μ2 ρ2 S2, Pre μ1 μ2 ∧ Ge H1 H4 ∧ Fr X.K c μ2 ρ2 S2 σ4 H4 ∧ I (i + 1) ρ2 S2 := fun ρ4 S4 k μ4 σ4 H4 p4 f4 g4 => by
      obtain ⟨μ5, ρ5, S5, p5, f5, k5⟩ := k.out f4 (p'.trans p4) hb
      exact ⟨μ5, ρ5, S5, p5, g'.trans ((Ge.of_same same).trans g4), f5, k5⟩
    refine ⟨fun ρ4 S4 k μ4 σ4 H4 p4 f4 g4 => next ρ4 S4 k μ4 σ4 H4 p4 f4 g4, fun pv S4 k μ4 ρ4 σ4 v4 H4 p4 f4 r4 g4 => q.rt pv S4 k μ4 ρ4 σ4 v4 H4 (p1.trans (p'.trans p4)) f4 r4 (g1.trans (g'.trans ((Ge.of_same same).trans g4))), fun ρ4 S4 k μ4 σ4 H4 p4 f4 g4 => q.nx ρ4 S4 k μ4 σ4 H4 (p1.trans (p'.trans p4)) f4 (g1.trans (g'.trans ((Ge.of_same same).trans g4))), fun ρ4 S4 k μ4 σ4 H4 p4 f4 g4 => next ρ4 S4 k μ4 σ4 H4 p4 f4 g4⟩
  · have e : i = items.length := by omega
    subst e
    exact .inl ⟨it.stop H' g', q.nx ρ' S' (done ρ' S' ii) μ' σ' H' (p1.trans p') f' (g1.trans g')⟩
/-- the turns of a while -/
def WhB (tc : TTp) (tb : TSp) (nx : Rho → Sto → Prop) (rt : PQ) (ρ0 : Rho) (S0 : Sto) : Prop := ∃ I : Nat → Rho → Sto → Prop, (∃ m, I m ρ0 S0) ∧ ∀ m ρ S, I m ρ S → tc ρ S fun b S1 =>
  Br b (tb ⟨Nx (lenS S0) fun ρ' S' => ∃ m', m' < m ∧ I m' ρ' S', rt, nx, Nx (lenS S0) fun ρ' S' => ∃ m', m' < m ∧ I m' ρ' S'⟩ ρ S1) (nx ρ S1)
@[reducible] def tWh (tc : TTp) (tb : TSp) : TSp := fun E ρ0 S0 => match E with | ⟨nx, rt, _, _⟩ => WhB tc tb nx rt ρ0 S0
theorem ws_while {k : Expr} {body : List Stmt} {tc : TTp} {tb : TSp} (hp : PassesOwn (model X.prog X.w) X.A X.env X.xe) (hc : WT X k tc) (hb : WSs X body tb) : WS X (.While k body [] pos) (tWh tc tb) := by
  refine ⟨fun c => ps_w (L2.ps_while hp (hc.pt c) (hb.ps c)) fun D σ H ⟨μ, ρ, S, E, f, h, q⟩ => ?_⟩
  obtain ⟨I, ⟨m0, i0⟩, step⟩ := h
  refine ⟨fun m σ' H' => ∃ μ' ρ' S', Pre μ μ' ∧ Ge H H' ∧ Fr X.K c μ' ρ' S' σ' H' ∧ I m ρ' S', ⟨m0, μ, ρ, S, .refl _, .refl _, f, i0⟩, ?_⟩
  rintro m σ' H' ⟨μ', ρ', S', p', g', f', ii⟩
  refine ⟨μ', ρ', S', _, f', step m ρ' S' ii, fun b S1 h1 μ1 H1 p1 f1 g1 => ?_⟩
  cases b with
  | false => exact iteF (q.nx ρ' S1 h1 μ1 σ' H1 (p'.trans p1) f1 (g'.trans g1))
  | true =>
    refine iteT ⟨fun σ2 H2 => ∃ m', m' < m ∧ ∃ μ2 ρ2 S2, Pre μ μ2 ∧ Ge H H2 ∧ Fr X.K c μ2 ρ2 S2 σ2 H2 ∧ I m' ρ2 S2, fun σ2 H2 ⟨m', hm, k⟩ => ⟨m', hm, k⟩, μ1, ρ', S1, _, f1, h1, ?_⟩
    have hb : μ.length = lenS S := by rw [lenS_eq, paired_len f.cel]
    have next : ∀ ρ4 S4, Nx (lenS S) (fun ρ' S' => ∃ m', m' < m ∧ I m' ρ' S') ρ4 S4 → ∀ μ4 σ4 H4, Pre μ1 μ4 → Fr X.K c μ4 ρ4 S4 σ4 H4 → Ge H1 H4 → ∃ m', m' < m ∧ ∃ μ2 ρ2 S2, Pre μ μ2 ∧ Ge H H4 ∧ Fr X.K c μ2 ρ2 S2 σ4 H4 ∧ I m' ρ2 S2 := fun ρ4 S4 k μ4 σ4 H4 p4 f4 g4 => by
      obtain ⟨μ5, ρ5, S5, p5, f5, m', hm, k5⟩ := k.out f4 (p'.trans (p1.trans p4)) hb
      exact ⟨m', hm, μ5, ρ5, S5, p5, g'.trans (g1.trans g4), f5, k5⟩
    refine ⟨fun ρ4 S4 k μ4 σ4 H4 p4 f4 g4 => next ρ4 S4 k μ4 σ4 H4 p4 f4 g4, fun pv S4 k μ4 ρ4 σ4 v4 H4 p4 f4 r4 g4 => q.rt pv S4 k μ4 ρ4 σ4 v4 H4 (p'.trans (p1.trans p4)) f4 r4 (g'.trans (g1.trans g4)), fun ρ4 S4 k μ4 σ4 H4 p4 f4 g4 => q.nx ρ4 S4 k μ4 σ4 H4 (p'.trans (p1.trans p4)) f4 (g'.trans (g1.trans g4)), fun ρ4 S4 k μ4 σ4 H4 p4 f4 g4 => next ρ4 S4 k μ4 σ4 H4 p4 f4 g4⟩
end
end Pu

set_option autoImplicit false
namespace Pu
open PySem PySem.Spec PyProof.Rows L2

/-! ### what a def is worth -/
abbrev PSp := List PV → Sto → PQ → Prop
def upF (K : PySem.W.Frag) (sp : PSp) : Sp := fun vs H Q _ => ∃ μ args S R, Paired (RepP K H μ) args vs ∧ Paired (CellR K H) S μ ∧ μ.Nodup ∧ sp args S R ∧
  ∀ pv S', R pv S' → ∀ μ' v H', Pre μ μ' → Paired (CellR K H') S' μ' → μ'.Nodup → (∀ a ∈ μ', a ∈ μ ∨ H a = none) → RepP K H' μ' pv v → Ge H H' → (∀ b o, H b = some o → b ∉ μ → H' b = some o) → Q v H'
@[reducible] def dA : List PyData → List PV
  | [] => []
  | x :: r => .d x :: dA r
theorem dA_eq : ∀ ds : List PyData, dA ds = ds.map PV.d
  | [] => rfl
  | x :: r => by rw [dA, dA_eq r]; rfl
/-- data in, data out -/
abbrev PFn := List PyData → (PyData → Prop) → Prop
def pur (f : PFn) : PSp := fun args S R => S = [] ∧ ∃ ds R0, args = dA ds ∧ f ds R0 ∧ ∀ r, R0 r → ∀ S', R (.d r) S'
/-- data in, a new list out -/
def newF (f : List PyData → (List PyData → Prop) → Prop) : PSp := fun args S R => S = [] ∧ ∃ ds R0, args = dA ds ∧ f ds R0 ∧ ∀ xs, R0 xs → ∀ i S', cellAt S' i = some (.lst xs) → R (.cel i) S'
/-- a list cell and data in, data out, the list changed -/
abbrev MFn := List PyData → List PyData → (PyData → List PyData → Prop) → Prop
def mutF (g : MFn) : PSp := fun args S R => ∃ xs ds R0, args = .cel 0 :: dA ds ∧ S = [.lst xs] ∧ g xs ds R0 ∧ ∀ r ys, R0 r ys → ∀ S', R (.d r) (.lst ys :: S')
@[reducible] def startP : Nat → List PV → Rho
  | 0, [] => []
  | n + 1, [] => none :: startP n []
  | n + 1, a :: as => some a :: startP n as
  | 0, _ :: _ => []
theorem startP_eq : ∀ (n : Nat) (args : List PV), args.length ≤ n → startP n args = args.map some ++ List.replicate (n - args.length) none
  | 0, [], _ => by simp [startP]
  | n + 1, [], _ => by
    rw [startP, startP_eq n [] (by simp)]
    simp [List.replicate_succ]
  | n + 1, a :: as, h => by
    rw [startP, startP_eq n as (by simpa using h)]
    simp
  | 0, _ :: _, h => by simp at h
/-! ### a def's promise where no repr is under way -/
structure FnOkG (P : Program) (w : World) (K : PySem.W.Frag) (mg : Str → Option Value) (base : Heap) (k : Nat) (f : Addr) (fd : FuncData) (ps : List Str) (sp : Sp) : Prop where
  len : ∀ vs H Q E, sp vs H Q E → vs.length = ps.length
  go : ∀ (A : Around) (outer : List Env) (s : Shared) (H : Hp) (args : Args) (us : List Value) (vs : List V) (Q : VK) (E : XK), Room k A → A.guards = some [] → Env0 P w K mg base A outer s H → BindsTo s fd args (ps.zip us) →
    Vals vs us → sp vs H Q E → codeAny (model P w) A (.call (.ref f) args) (CR CX0 outer P w H s Q E) s
theorem FnOkG.mono {P : Program} {w : World} {K : PySem.W.Frag} {mg : Str → Option Value} {base : Heap} {j k : Nat} {f : Addr} {fd : FuncData} {ps : List Str} {sp : Sp} (F : FnOkG P w K mg base j f fd ps sp) (h : j ≤ k) :
    FnOkG P w K mg base k f fd ps sp := ⟨F.len, fun A outer s H args us vs Q E hr => F.go A outer s H args us vs Q E (hr.mono h)⟩
section
variable {P : Program} {w : World} {K : PySem.W.Frag} {mg : Str → Option Value} {base : Heap}
theorem okG {x qual : Str} {st : Stmt} {f : Addr} {fd : FuncData} {N ps : List Str} {k : Nat} {sp : Sp} (F : Fun K x qual st f fd) (S : FnScope N ps (defScope st)) (len : ∀ vs H Q E, sp vs H Q E → vs.length = ps.length)
    (hbody : ∀ (cdv : Value) (A : Around) (outer : List Env) (s : Shared) (H : Hp) (vs : List V) (Q : VK) (E : XK), Room k (A.deeper (envOfC qual (defScope st) s.heap.objs.size f cdv)) → (A.deeper (envOfC qual (defScope st) s.heap.objs.size f cdv)).guards = some [] → sp vs H Q E →
      ∃ t, PSs (cxOf CX0 P w K mg base N qual (defScope st) f cdv A outer s H E).nox (defBody st) t ∧ t { nx := fun _ H' => Q .non H', rt := Q } (start N vs) H) : FnOkG P w K mg base (k + 1) f fd ps sp := by
  obtain ⟨oc, od, kV, doc, pm, an, cdv, ct, osl, rfl, lk, hcd⟩ := F.ex
  refine ⟨len, fun A outer s H args us vs Q E room hgs ev bind rv q => ?_⟩
  have inK : K.In s.heap := ev.mod.kin.keeps fun b o e => (ev.bs b o e).1
  have lim : s.heap.NoLimit := ev.mod.nolimit.keeps fun b o e => (ev.bs b o e).1
  have one : ∀ y ∈ ps.zip us, (defScope st).names.lookup y.1 = some .local ∨ ((defScope st).names.lookup y.1 = some .cell ∧ ((cellsFrom (s.heap.objs.size + 1) (defScope st).names []).lookup y.1).isSome = true) := by
    rintro ⟨x, v⟩ hy
    exact (S.par x (List.of_mem_zip hy).1).imp id fun q => ⟨q, PySem.W.cellsFrom_some _ _ _ (.inl q)⟩
  refine codeAny_call_function room.depth (inK _ _ lk) rfl S.co S.gen rfl (PySem.W.codeRec_of inK hcd) (bind _ _ _ _ ?_)
  refine wpAny_newFunctionEnv_cells S.kind one fun env he s1 x => ?_
  subst he
  refine ⟨lim.keeps x.toInCall.keep, codeAny_func ?_⟩
  obtain ⟨t, ht, hq⟩ := hbody cdv A outer s H vs Q E (room.deeper _) hgs q
  have I : Inv (cxOf CX0 P w K mg base N qual (defScope st) f cdv A outer s H E) [] (L2.start N vs) H s1 := inv_start S room.hd ev (len _ _ _ _ q) rv x
  refine wpAny_mono (ht.nox.run [] s1 _ H _ I hq) (fun fl s' hs => ?_) fun e s' hs => hs
  cases fl with
  | ret u =>
    obtain ⟨v, σ', H', J, rv, q⟩ := hs
    exact ⟨v, H', J.os, J.bare, J.base, J.hok, rv, q⟩
  | next =>
    obtain ⟨σ', H', J, q⟩ := hs
    exact ⟨.non, H', J.os, J.bare, J.base, J.hok, rfl, q⟩
  | brk => obtain ⟨_, _, _, q⟩ := hs; exact False.elim q
  | cont => obtain ⟨_, _, _, q⟩ := hs; exact False.elim q
end
section
variable {X : Cx} {k : Nat} {f C : Addr} {fd : FuncData} {ps : List Str} {sp : Sp} {dvs : List V} {ds : List Value} {E : XK} {x m : Str} {p pos apos : Pos} {e o : Expr} {es : List Expr} {ta : TE} {t : TA}
theorem run_fnG {pins : List (Addr × Obj)} {σ : L2.St} {H : Hp} {s : Shared} {Q : VK} {us : List Value} {vs : List V} (F : FnOkG X.prog X.w X.K X.mg X.base k f fd ps sp) (hr : Room k X.A) (hgs : X.A.guards = some []) (hb : Binds X.K fd ps ds) (hd : Vals dvs ds)
    (I : Inv X pins σ H s) (r : Vals vs us) (h : sp (vs ++ dvs) H Q E) : wpAny (model X.prog X.w) X.A (PySem.call (.ref f) us) (EP X pins σ Q) X.xe s := by
  have both : Vals (vs ++ dvs) (us ++ ds) := r.append hd
  have hl : (us ++ ds).length = ps.length := by rw [← both.length]; exact F.len _ _ _ _ h
  refine wpAny_call (codeAny_mono (F.go X.A X.stack s H ⟨us, []⟩ _ _ Q E hr hgs I.env0 (hb s us I.kIn hl) both h) fun r s' hq => ?_)
  match r, hq with
  | .error _, hq => exact False.elim hq
  | .ok (.ret _), hq => exact I.after hq
  | .ok .next, hq => exact False.elim hq
  | .ok .brk, hq => exact False.elim hq
  | .ok .cont, hq => exact False.elim hq
theorem pe_callG (F : FnOkG X.prog X.w X.K X.mg X.base k f fd ps sp) (hr : Room k X.A) (hgs : X.A.guards = some []) (hg : Gl X x) (hm : X.mg x = some (.ref f)) (hk : PySem.W.keepIn X.K (.ref f) = true) (hb : Binds X.K fd ps ds) (hd : Vals dvs ds)
    (ha : PA X (e :: es) t) (hdb : (x == ("__debug__" : Str)) = false := by decide) (he : starEach (e :: es) X.env = (false, eval e X.env) :: starEach es X.env := by rfl) (hpl : (backTo pos (starEach es X.env)).any (·.1) = false := by rfl) :
    PE X (.Call (.Name x p) (e :: es) [] pos) (tCall sp dvs E t) :=
  ⟨fun pins s σ H Q I h => wpAny_Call_Name_kw (ld_glob I hg hm
    (PySem.W.callWith_K (h₀ := X.base) I.ok.mod.kin hk (thn (ha.run pos pins s σ H _ I h) fun us s1 ⟨_, _, J, r, q⟩ => ⟨J.kIn, run_fnG F hr hgs hb hd J r q⟩) he hpl) hdb)⟩
theorem pe_callG0 (F : FnOkG X.prog X.w X.K X.mg X.base k f fd ps sp) (hr : Room k X.A) (hgs : X.A.guards = some []) (hg : Gl X x) (hm : X.mg x = some (.ref f)) (hk : PySem.W.keepIn X.K (.ref f) = true) (hb : Binds X.K fd ps ds) (hd : Vals dvs ds)
    (hdb : (x == ("__debug__" : Str)) = false := by decide) : PE X (.Call (.Name x p) [] [] pos) (tCall sp dvs E tNil) :=
  ⟨fun _ _ _ _ _ I h => wpAny_Call_Name_kw (ld_glob I hg hm (PySem.W.callWith_K0 I.kIn hk (run_fnG (us := []) F hr hgs hb hd I .nil h)) hdb)⟩
end
section
variable {P : Program} {w : World} {K : PySem.W.Frag} {mg : Str → Option Value} {base : Heap}
theorem start_slots {H : Hp} {μ : List Addr} : ∀ {args : List PV} {vs : List V}, Paired (RepP K H μ) args vs → ∀ n, Paired (SlotR K H μ) (args.map some ++ List.replicate n none) (vs.map some ++ List.replicate n none)
  | _, _, .nil, n => by
    simp only [List.map_nil, List.nil_append]
    induction n with
    | zero => exact .nil
    | succ n ih => rw [List.replicate_succ, List.replicate_succ]; exact .cons trivial ih
  | _, _, .cons r t, n => .cons r (start_slots t n)
/-- THE RULE for a def: its body's term, and what the term says at the arguments -/
theorem okP {x qual : Str} {st : Stmt} {f : Addr} {fd : FuncData} {N ps : List Str} {k n : Nat} {sp : PSp} {t : TSp} (F : Fun K x qual st f fd) (S : FnScope N ps (defScope st)) (hn : N.length = n)
    (len : ∀ args S R, sp args S R → args.length = ps.length)
    (hw : ∀ (cdv : Value) (A : Around) (outer : List Env) (s : Shared) (H : Hp) (E : XK), Room k (A.deeper (envOfC qual (defScope st) s.heap.objs.size f cdv)) → (A.deeper (envOfC qual (defScope st) s.heap.objs.size f cdv)).guards = some [] →
      WSs (cxOf CX0 P w K mg base N qual (defScope st) f cdv A outer s H E).nox (defBody st) t)
    (hb : ∀ args S R, sp args S R → t { nx := fun _ S' => R (.d .none) S', rt := R } (startP n args) S) : FnOkG P w K mg base (k + 1) f fd ps (upF K sp) := by
  refine okG F S (fun vs H Q E h => ?_) (fun cdv A outer s H vs Q E hr hgs h => ?_)
  · obtain ⟨μ, args, S, R, r, _, _, h, _⟩ := h
    rw [← paired_len r]; exact len _ _ _ h
  · obtain ⟨μ, args, S0, R, r, rc, nd, h, q⟩ := h
    refine ⟨_, (hw cdv A outer s H E hr hgs).ps ⟨H, fun a => a ∈ μ⟩, μ, startP n args, S0, _, ⟨?_, rc, nd, fun a ha => .inl ha, fun b o e _ => e⟩, hb args S0 R h, ?_⟩
    · have := start_slots r (n - args.length)
      have hle : args.length ≤ n := by
        rw [len _ _ _ h, ← hn]
        have := congrArg List.length S.pre
        rw [List.length_take] at this
        omega
      rw [startP_eq n args hle]
      unfold L2.start
      rw [hn, ← paired_len r]
      exact this
    · refine ⟨fun ρ' S' hx μ' σ' H' p f' g => ?_, fun pv S' hx μ' ρ' σ' v H' p f' rp g => ?_, fun _ _ hx => hx.elim, fun _ _ hx => hx.elim⟩
      · exact q _ _ hx μ' .non H' p f'.cel f'.nd f'.own rfl g fun b o e n => f'.keep b o e n
      · exact q _ _ hx μ' v H' p f'.cel f'.nd f'.own rp g fun b o e n => f'.keep b o e n
end

/-! ### calls -/
theorem pairedD {K : PySem.W.Frag} {H : Hp} {μ : List Addr} : ∀ {ds : List PyData} {vs : List V}, Reps K H ds vs → Paired (RepP K H μ) (dA ds) vs
  | [], _, h => by rw [show _ = [] from h]; exact .nil
  | _ :: _, _, ⟨_, _, e, r, t⟩ => by subst e; exact .cons r (pairedD t)
theorem same_of {H H' : Hp} (h : ∀ b o, H b = some o → b ∉ ([] : List Addr) → H' b = some o) : Same H H' := fun b o e => h b o e (by simp)
section
variable {X : Cx} {k n : Nat} {f : Addr} {fd : FuncData} {ps : List Str} {x : Str} {p pos : Pos} {e : Expr} {es : List Expr} {ta : TAp}
@[reducible] def tCl (f : PFn) (ta : TAp) : TEp := fun ρ S R => ta ρ S fun pvs S1 => match dsP pvs with
  | some ds => f ds fun r => R (.d r) S1
  | none => False
/-- the reading that a call by any road asks: data -/
theorem call_up {fn : PFn} {c : FP} {σ : L2.St} {H : Hp} {Q : VK} (h : up X.K c (tCl fn ta) σ H Q) : tCall (upF X.K (pur fn)) [] E0 (upA X.K c n ta) σ H Q := by
  obtain ⟨μ, ρ, S, R, f, h, q⟩ := h
  refine ⟨μ, ρ, S, _, f, h, fun pvs S1 h1 hl μ1 vs H1 p1 f1 r1 g1 => ?_⟩
  split at h1
  · rename_i ds e
    obtain ⟨rr, _⟩ := dsP_rep r1 e
    refine ⟨[], dA ds, [], fun pv _ => match pv with | .d r => R (.d r) S1 | .cel _ => False, by rw [List.append_nil]; exact pairedD rr, .nil, .nil, ⟨rfl, ds, _, rfl, h1, fun r hr _ => hr⟩, fun pv S' hR μ' v H' p' _ _ _ rp g same => ?_⟩
    · cases pv with
      | d r => exact q (.d r) S1 hR μ1 v H' p1 (f1.same (same_of same)) rp (g1.trans g)
      | cel _ => exact hR.elim
  · exact h1.elim
theorem w_call {fn : PFn} (F : FnOkG X.prog X.w X.K X.mg X.base k f fd ps (upF X.K (pur fn))) (hr : Room k X.A) (hgs : X.A.guards = some []) (hg : Gl X x) (hm : X.mg x = some (.ref f)) (hk : PySem.W.keepIn X.K (.ref f) = true) (hb : Binds X.K fd ps [])
    (ha : WA X (e :: es) n ta) (hdb : (x == ("__debug__" : Str)) = false := by decide) (he : starEach (e :: es) X.env = (false, eval e X.env) :: starEach es X.env := by rfl) (hpl : (backTo pos (starEach es X.env)).any (·.1) = false := by rfl) :
    WE X (.Call (.Name x p) (e :: es) [] pos) (tCl fn ta) :=
  ⟨fun c => pe_w (pe_callG F hr hgs hg hm hk hb .nil (ha.pa c) hdb he hpl) fun _ _ _ h => call_up h⟩
/-- a def that changes the list cell which is its first argument -/
@[reducible] def tClM (g : MFn) (ta : TAp) : TEp := fun ρ S R => ta ρ S fun pvs S1 => match pvs with
  | .cel i :: rest => match cellAt S1 i, dsP rest with
    | some (.lst xs), some ds => g xs ds fun r ys => R (.d r) (setS S1 i (.lst ys))
    | _, _ => False
  | _ => False
theorem callM_up {g : MFn} {c : FP} {σ : L2.St} {H : Hp} {Q : VK} (h : up X.K c (tClM g ta) σ H Q) : tCall (upF X.K (mutF g)) [] E0 (upA X.K c n ta) σ H Q := by
  obtain ⟨μ, ρ, S, R, f, h, q⟩ := h
  refine ⟨μ, ρ, S, _, f, h, fun pvs S1 h1 hl μ1 vs H1 p1 f1 r1 g1 => ?_⟩
  split at h1
  · rename_i i rest
    cases r1 with
    | cons ri r1 =>
      obtain ⟨a, ha, rfl⟩ := ri
      split at h1
      · rename_i xs ds e1 e2
        rw [cellAt_get] at e1
        obtain ⟨a', ha', cr⟩ := f1.at e1
        rw [ha] at ha'; cases ha'
        obtain ⟨rr, _⟩ := dsP_rep r1 e2
        refine ⟨[a], .cel 0 :: dA ds, [.lst xs], fun pv S' => ∃ r ys S2, pv = .d r ∧ S' = .lst ys :: S2 ∧ R (.d r) (setS S1 i (.lst ys)), ?_, .cons cr .nil, by simp, ⟨xs, ds, _, rfl, rfl, h1, fun r ys hr S' => ⟨r, ys, S', rfl, rfl, hr⟩⟩, fun pv S' hR μ' v H' p' rc _ own rp gg same => ?_⟩
        · rw [List.append_nil]; exact .cons ⟨a, rfl, rfl⟩ (pairedD rr)
        · obtain ⟨r, ys, S2, rfl, rfl, hR⟩ := hR
          obtain ⟨rest', rfl⟩ := p'
          cases rc with
          | cons c0 _ =>
            exact q (.d r) _ hR μ1 v H' p1 (f1.put ha (fun b o e hb => same b o e (by simpa using hb)) gg c0) rp (g1.trans gg)
      · exact h1.elim
  · exact h1.elim
theorem w_callM {g : MFn} (F : FnOkG X.prog X.w X.K X.mg X.base k f fd ps (upF X.K (mutF g))) (hr : Room k X.A) (hgs : X.A.guards = some []) (hg : Gl X x) (hm : X.mg x = some (.ref f)) (hk : PySem.W.keepIn X.K (.ref f) = true) (hb : Binds X.K fd ps [])
    (ha : WA X (e :: es) n ta) (hdb : (x == ("__debug__" : Str)) = false := by decide) (he : starEach (e :: es) X.env = (false, eval e X.env) :: starEach es X.env := by rfl) (hpl : (backTo pos (starEach es X.env)).any (·.1) = false := by rfl) :
    WE X (.Call (.Name x p) (e :: es) [] pos) (tClM g ta) :=
  ⟨fun c => pe_w (pe_callG F hr hgs hg hm hk hb .nil (ha.pa c) hdb he hpl) fun _ _ _ h => callM_up h⟩
/-- a def that hands back a new list -/
@[reducible] def tClN (f : List PyData → (List PyData → Prop) → Prop) (ta : TAp) : TNp := fun ρ S R => ta ρ S fun pvs S1 => match dsP pvs with
  | some ds => f ds fun xs => R xs S1
  | none => False
theorem callN_up {fn : List PyData → (List PyData → Prop) → Prop} {c : FP} {σ : L2.St} {H : Hp} {Q : VK} (h : upN X.K c (tClN fn ta) σ H Q) : tCall (upF X.K (newF fn)) [] E0 (upA X.K c n ta) σ H Q := by
  obtain ⟨μ, ρ, S, R, f, h, q⟩ := h
  refine ⟨μ, ρ, S, _, f, h, fun pvs S1 h1 hl μ1 vs H1 p1 f1 r1 g1 => ?_⟩
  split at h1
  · rename_i ds e
    obtain ⟨rr, _⟩ := dsP_rep r1 e
    refine ⟨[], dA ds, [], fun pv S' => match pv with
      | .cel i => ∃ xs, cellAt S' i = some (.lst xs) ∧ R xs S1
      | .d _ => False, by rw [List.append_nil]; exact pairedD rr, .nil, .nil, ⟨rfl, ds, _, rfl, h1, fun xs hx i S' e => ⟨xs, e, hx⟩⟩, fun pv S' hR μ' v H' p' rc _ own rp g same => ?_⟩
    · cases pv with
      | d _ => exact hR.elim
      | cel i =>
        obtain ⟨xs, e1, hR⟩ := hR
        obtain ⟨a, ha, rfl⟩ := rp
        rw [cellAt_get] at e1
        obtain ⟨a', ha', us, e3, r3⟩ := paired_get rc e1
        rw [ha] at ha'; cases ha'
        have ha1 : H1 a = none := (own a (List.mem_of_getElem? ha)).elim (fun z => absurd z (by simp)) id
        exact q xs S1 hR μ1 a us H' p1 (f1.same (same_of same)) e3 (f1.notIn ha1) (f1.noH0 ha1) r3 (g1.trans g)
  · exact h1.elim
theorem w_callN {fn : List PyData → (List PyData → Prop) → Prop} (F : FnOkG X.prog X.w X.K X.mg X.base k f fd ps (upF X.K (newF fn))) (hr : Room k X.A) (hgs : X.A.guards = some []) (hg : Gl X x) (hm : X.mg x = some (.ref f)) (hk : PySem.W.keepIn X.K (.ref f) = true) (hb : Binds X.K fd ps [])
    (ha : WA X (e :: es) n ta) (hdb : (x == ("__debug__" : Str)) = false := by decide) (he : starEach (e :: es) X.env = (false, eval e X.env) :: starEach es X.env := by rfl) (hpl : (backTo pos (starEach es X.env)).any (·.1) = false := by rfl) :
    WN X (.Call (.Name x p) (e :: es) [] pos) (tClN fn ta) :=
  ⟨fun c => pe_w (pe_callG F hr hgs hg hm hk hb .nil (ha.pa c) hdb he hpl) fun _ _ _ h => callN_up h⟩
/-- a new list as data: it is locked -/
@[reducible] def tNe (t : TNp) : TEp := fun ρ S R => t ρ S fun xs S1 => R (.d (.list xs)) S1
theorem w_ne {t : TNp} (h : WN X e t) : WE X e (tNe t) := by
  refine ⟨fun c => pe_w (pe_freeze (h.pe c)) fun σ H Q ⟨μ, ρ, S, R, f, h, q⟩ => ?_⟩
  refine ⟨μ, ρ, S, _, f, h, fun xs S1 h1 μ1 p vs H1 p1 f1 hp np no rr g1 => .inr ⟨p, vs, rfl, hp, fun o => ?_⟩⟩
  have g2 : Ge H1 (upd H1 p (.frz o (.lst vs))) := .put hp
  refine q _ S1 h1 μ1 _ _ p1 ⟨paired_imp f1.env fun _ _ z => SlotR.mono g2 (.refl _) z, paired_at f1.cel fun i y a e1 e2 z => ?_, f1.nd, f1.own, fun b ob e nb => ?_⟩ ⟨p, vs, rfl, .inl ⟨o, upd_same⟩, Reps.mono g2 _ _ rr⟩ (g1.trans g2)
  · have na : a ≠ p := fun h => np (h ▸ List.mem_of_getElem? e2)
    exact z.move (fun o e => by rw [upd_ne na]; exact e) g2
  · have nb' : b ≠ p := fun h => by
      subst h
      rcases no with z | z
      · exact nb z
      · rw [z] at e; cases e
    rw [upd_ne nb']; exact f1.keep b ob e nb

/-! ### built-ins -/
abbrev OpA := List PyData → (PyData → Prop) → Prop
def OpaOk (K : PySem.W.Frag) (r : List V → Hp → VK → Prop) (p : OpA) : Prop := ∀ (H : Hp) (ds : List PyData) (vs : List V) (k : PyData → Prop) (Q : VK), Paired (RepR K H) ds vs → p ds k → RetD K H k Q → r vs H Q
@[reducible] def tBi (p : OpA) (ta : TAp) : TEp := fun ρ S R => ta ρ S fun pvs S1 => match dsOf S1 pvs with
  | some ds => p ds fun r => R (.d r) S1
  | none => False
theorem bi_up {r : List V → Hp → VK → Prop} {pr : OpA} (hp : OpaOk X.K r pr) {c : FP} {σ : L2.St} {H : Hp} {Q : VK} (h : up X.K c (tBi pr ta) σ H Q) : tCB r (upA X.K c n ta) σ H (Fz Q) := by
  obtain ⟨μ, ρ, S, R, f, h, q⟩ := h
  refine ⟨μ, ρ, S, _, f, h, fun pvs S1 h1 hl μ1 vs H1 p1 f1 r1 g1 => ?_⟩
  split at h1
  · rename_i ds e1
    exact hp H1 ds vs _ _ (dsOf_rep f1 r1 e1) h1 (retD_of f1 q p1 g1)
  · exact h1.elim
theorem w_callB {id : String} {r : List V → Hp → VK → Prop} {pr : OpA} (hc : CallR X (.builtin id) r) (hp : OpaOk X.K r pr) (hg : Gl X x) (hm : X.mg x = none) (hv : bootBuiltins x = some (.builtin id)) (ha : WA X (e :: es) n ta)
    (hl : ∀ t, PA X (e :: es) t → PE X (.Call (.Name x p) (e :: es) [] pos) (tCB r t)) : WE X (.Call (.Name x p) (e :: es) [] pos) (tBi pr ta) :=
  ⟨fun c => pe_w (pe_freeze (hl _ (ha.pa c))) fun _ _ _ h => bi_up hp h⟩
theorem w_bi {r : List V → Hp → VK → Prop} {pr : OpA} {ce : Expr} (hp : OpaOk X.K r pr) (ha : WA X es n ta) (hl : ∀ t, PA X es t → PE X ce (tCB r t)) : WE X ce (tBi pr ta) :=
  ⟨fun c => pe_w (pe_freeze (hl _ (ha.pa c))) fun _ _ _ h => bi_up hp h⟩
/-- isinstance(e, T), T a built-in class -/
inductive TyN where
  | int | bool | str | tuple | list
def TyN.nm : TyN → String
  | .int => "int"
  | .bool => "bool"
  | .str => "str"
  | .tuple => "tuple"
  | .list => "list"
@[reducible] def isT : TyN → PyData → Bool
  | .int, .int _ => true
  | .int, .bool _ => true
  | .bool, .bool _ => true
  | .str, .str _ => true
  | .tuple, .tuple _ => true
  | .list, .list _ => true
  | _, _ => false
def tyD : PyData → String
  | .none => "NoneType"
  | .bool _ => "bool"
  | .int _ => "int"
  | .str _ => "str"
  | .list _ => "list"
  | .tuple _ => "tuple"
  | .dict _ => "dict"
theorem ty_of {K : PySem.W.Frag} {H : Hp} : ∀ {d : PyData} {v : V}, RepR K H d v → True → TyX K H v (.type (tyD d))
  | .none, v, h, _ => by rw [show v = .non from h]; exact .base (.non)
  | .bool b, v, h, _ => by rw [show v = .bl b from h]; exact .base (.bl b)
  | .int i, v, h, _ => by rw [show v = .int i from h]; exact .base (.int i)
  | .str z, v, h, _ => by rw [show v = .str z from h]; exact .base (.str z)
  | .list xs, _, ⟨a, vs, e, s, _⟩, _ => by
    subst e
    rcases s with s | ⟨o, s⟩ | ⟨its, n, s, _, _⟩
    · exact .base (.lst s)
    · exact .base (.frz s)
    · exact .kList s rfl
  | .tuple xs, _, ⟨a, vs, e, s, _⟩, _ => by
    subst e
    rcases s with (s | ⟨o, s⟩) | ⟨o, its, m, hk, hc, _⟩
    · exact .base (.tup s)
    · exact .fTuple s
    · exact .kTuple hk hc
  | .dict kv, _, ⟨a, ps, e, ⟨o, h⟩, _⟩, _ => by subst e; exact .fDict h
@[reducible] def tIs (T : TyN) (te : TEp) : TEp := fun ρ S R => te ρ S fun x S1 => match vw S1 x with
  | some d => R (.d (.bool (isT T d))) S1
  | none => False
end
end Pu

set_option autoImplicit false
namespace Pu
open PySem PySem.Spec PyProof.Rows L2

/-! ### operators on data, one by one -/
section
variable {X : Cx} {K : PySem.W.Frag}
/-- two ints -/
@[reducible] def dII (C : Int → Int → Prop) (g : Int → Int → PyData) : OpD := fun a b k => match a, b with
  | .int i, .int j => C i j ∧ k (g i j)
  | _, _ => False
@[reducible] def dI0 (g : Int → Int → PyData) : OpD := fun a b k => match a, b with
  | .int i, .int j => k (g i j)
  | _, _ => False
theorem ok_II {C : Int → Int → Prop} {g : Int → Int → PyData} {gv : Int → Int → V} (hg : ∀ i j H, Rep K H (g i j) (gv i j)) : OpdOk K (rI C gv) (dII C g) := by
  intro H a b va vb k Q ra rb h q
  unfold dII at h
  split at h
  · rename_i i j
    exact ⟨i, j, ra, rb, h.1, q.val _ _ H h.2 (hg i j H) (.refl _)⟩
  · exact h.elim
theorem ok_I0 {g : Int → Int → PyData} {gv : Int → Int → V} (hg : ∀ i j H, Rep K H (g i j) (gv i j)) : OpdOk K (rI0 gv) (dI0 g) := by
  intro H a b va vb k Q ra rb h q
  unfold dI0 at h
  split at h
  · rename_i i j
    exact ⟨i, j, ra, rb, q.val _ _ H h (hg i j H) (.refl _)⟩
  · exact h.elim
/-- one of two rules -/
theorem OpdOk.or {r r' : R2} {p p' pp : OpD} (h : OpdOk K r p) (h' : OpdOk K r' p') (e : ∀ a b k, pp a b k → p a b k ∨ p' a b k) : OpdOk K (fun x y H Q => r x y H Q ∨ r' x y H Q) pp := by
  intro H a b va vb k Q ra rb hh q
  rcases e a b k hh with z | z
  · exact .inl (h H a b va vb k Q ra rb z q)
  · exact .inr (h' H a b va vb k Q ra rb z q)
/-- list + list -/
def rCatL (K : PySem.W.Frag) : R2 := fun x y H Q => ∃ l b xs zs, x = .ref l ∧ y = .ref b ∧ RdL K H l xs ∧ RdL K H b zs ∧ xs.length + zs.length ≤ sizeLine ∧ ∀ p, H p = none → Q (.ref p) (upd H p (.lst (xs ++ zs)))
theorem rd_lst {pins : List (Addr × Obj)} {σ : L2.St} {H : Hp} {s : Shared} {a : Addr} {xs : List V} (I : Inv X pins σ H s) (h : RdL X.K H a xs) : ∃ (its : List Value) (n : Nat), Vals xs its ∧ s.heap.get? a = some { cls := .type "list", data := .seq its.toArray n } := by
  rcases h with h | ⟨o, h⟩ | ⟨its, n, h, _, r⟩
  · obtain ⟨_, its, n, r, e⟩ := I.hok a _ h
    exact ⟨its, n, r, e⟩
  · obtain ⟨_, _, its, n, r, e⟩ := I.hok a _ h
    exact ⟨its, n, r, e⟩
  · exact ⟨its, n, r, I.kIn a _ h⟩
theorem op_catL : OpR X (binaryOp .Add) (rCatL X.K) := by
  intro pins s σ H x y v u Q I rx ry h
  obtain ⟨l, b, xs, zs, rfl, rfl, h1, h2, hz, q⟩ := h
  cases rx; cases ry
  obtain ⟨its, n, r, e⟩ := rd_lst I h1
  obtain ⟨its2, n2, r2, e2⟩ := rd_lst I h2
  have l1 := r.length
  have l2 := r2.length
  refine PySem.P.add_list e e2 ?_ (by rw [List.size_toArray, List.size_toArray]; omega)
  rw [show its.toArray ++ its2.toArray = (its ++ its2).toArray by simp]
  exact ⟨.ref _, _, I.lnew (t' := s.toks) (r.append r2) (by rw [List.length_append]; omega), rfl, q _ I.fresh⟩
@[reducible] def dAdd : OpD := fun a b k => match a, b with
  | .int i, .int j => k (.int (i + j))
  | .list xs, .list ys => xs.length + ys.length ≤ sizeLine ∧ k (.list (xs ++ ys))
  | _, _ => False
theorem op_addA : OpR X (binaryOp .Add) (fun x y H Q => rI0 (fun i j => .int (i + j)) x y H Q ∨ rCatL X.K x y H Q) := op_add.or op_catL
theorem ok_add : OpdOk K (fun x y H Q => rI0 (fun i j => .int (i + j)) x y H Q ∨ rCatL K x y H Q) dAdd := by
  intro H a b va vb k Q ra rb h q
  unfold dAdd at h
  split at h
  · rename_i i j
    exact .inl ⟨i, j, ra, rb, q.val _ _ H h rfl (.refl _)⟩
  · rename_i xs ys
    obtain ⟨l, us, rfl, s1, r1⟩ := ra
    obtain ⟨b', ws, rfl, s2, r2⟩ := rb
    exact .inr ⟨l, b', us, ws, rfl, rfl, s1, s2, by rw [← r1.length, ← r2.length]; exact h.1, fun p hp => q.new _ p _ h.2 hp (r1.append r2)⟩
  · exact h.elim
def CMulP (i j : Int) : Prop := i.natAbs.log2 + j.natAbs.log2 < 1000000
def CDivP' (j : Int) : Prop := 0 < j ∧ j.natAbs.log2 < 9000
variable {a b : Expr} {ta tb : TEp} {pos : Pos}
abbrev dSub : OpD := dI0 fun i j => .int (i - j)
abbrev dMul : OpD := dII CMulP fun i j => .int (i * j)
abbrev dFdiv : OpD := dII (fun _ j => 0 < j ∧ j.natAbs.log2 < 9000) fun i j => .int (i / j)
abbrev dMod : OpD := dII (fun _ j => 0 < j) fun i j => .int (i % j)
abbrev dPow : OpD := dII (fun i j => 0 ≤ j ∧ j ≤ 1000000 ∧ i.natAbs < 2 ^ 64) fun i j => .int (i ^ j.toNat)
theorem w_add (ha : WE X a ta) (hb : WE X b tb) : WE X (.BinOp a .Add b pos) (tBin dAdd ta tb) := w_bin op_addA ok_add ha hb
theorem w_sub (ha : WE X a ta) (hb : WE X b tb) : WE X (.BinOp a .Sub b pos) (tBin dSub ta tb) := w_bin op_sub (ok_I0 fun _ _ _ => rfl) ha hb
theorem w_mul (ha : WE X a ta) (hb : WE X b tb) : WE X (.BinOp a .Mult b pos) (tBin dMul ta tb) := w_bin op_mulW (ok_II (C := CMulW) (g := fun i j => .int (i * j)) fun _ _ _ => rfl) ha hb
theorem w_fdiv (ha : WE X a ta) (hb : WE X b tb) : WE X (.BinOp a .FloorDiv b pos) (tBin dFdiv ta tb) := w_bin op_fdivW (ok_II (C := CDivW) (g := fun i j => .int (i / j)) fun _ _ _ => rfl) ha hb
theorem w_mod (ha : WE X a ta) (hb : WE X b tb) : WE X (.BinOp a .Mod b pos) (tBin dMod ta tb) := w_bin op_mod (ok_II fun _ _ _ => rfl) ha hb
theorem w_pow (ha : WE X a ta) (hb : WE X b tb) : WE X (.BinOp a .Pow b pos) (tBin dPow ta tb) := w_bin op_pow (ok_II (C := CPow) (g := fun i j => .int (i ^ j.toNat)) fun _ _ _ => rfl) ha hb
/-- // and % by a divisor of either sign -/
abbrev dFdivS : OpD := dII (fun _ j => j ≠ 0 ∧ j.natAbs.log2 < 9000) fun i j => .int (i.fdiv j)
abbrev dModS : OpD := dII (fun _ j => j ≠ 0) fun i j => .int (i.fmod j)
theorem op_fdivS : OpR X (binaryOp .FloorDiv) (rI (fun _ j => j ≠ 0 ∧ j.natAbs.log2 < 9000) fun i j => .int (i.fdiv j)) := opI fun i j _ _ _ _ _ hc q => floordiv_int hc.1 q (.inl (by
  have h := hc.2
  exact PyProof.noPylong_of_log2 h))
theorem w_modS (ha : WE X a ta) (hb : WE X b tb) : WE X (.BinOp a .Mod b pos) (tBin dModS ta tb) := w_bin op_modN (ok_II (C := fun _ j => j ≠ 0) (g := fun i j => .int (i.fmod j)) fun _ _ _ => rfl) ha hb
@[reducible] def uNeg (a : PyData) (k : PyData → Prop) : Prop := match a with
  | .int i => k (.int (-i))
  | _ => False
theorem w_neg (ha : WE X a ta) : WE X (.UnaryOp .USub a pos) (tUnp uNeg ta) := w_un un_neg (fun H a va k Q ra h q => by
  unfold uNeg at h
  split at h
  · rename_i i
    exact ⟨i, ra, q.val _ _ H h rfl (.refl _)⟩
  · exact h.elim) ha
theorem w_fdivS (ha : WE X a ta) (hb : WE X b tb) : WE X (.BinOp a .FloorDiv b pos) (tBin dFdivS ta tb) := w_bin op_fdivS (ok_II fun _ _ _ => rfl) ha hb
/-! ### comparisons -/
abbrev R2m (r : R2) : Prop := ∀ x y H Q Q', (∀ v H1, Q v H1 → Q' v H1) → r x y H Q → r x y H Q'
theorem m_I0 {g : Int → Int → V} : R2m (rI0 g) := fun _ _ _ _ _ h ⟨i, j, a, b, q⟩ => ⟨i, j, a, b, h _ _ q⟩
abbrev dLt : OpD := dI0 fun i j => .bool (decide (i < j))
abbrev dLe : OpD := dI0 fun i j => .bool (decide (i ≤ j))
abbrev dGt : OpD := dI0 fun i j => .bool (decide (j < i))
abbrev dGe : OpD := dI0 fun i j => .bool (decide (j ≤ i))
theorem w_lt (ha : WE X a ta) (hb : WE X b tb) : WE X (.Compare a [.Lt] [b] pos) (tBin dLt ta tb) := w_cmp op_lt (ok_I0 fun _ _ _ => rfl) ha hb (nomark _)
theorem w_le (ha : WE X a ta) (hb : WE X b tb) : WE X (.Compare a [.LtE] [b] pos) (tBin dLe ta tb) := w_cmp op_le (ok_I0 fun _ _ _ => rfl) ha hb (nomark _)
theorem w_gt (ha : WE X a ta) (hb : WE X b tb) : WE X (.Compare a [.Gt] [b] pos) (tBin dGt ta tb) := w_cmp op_gt (ok_I0 fun _ _ _ => rfl) ha hb (nomark _)
theorem w_ge (ha : WE X a ta) (hb : WE X b tb) : WE X (.Compare a [.GtE] [b] pos) (tBin dGe ta tb) := w_cmp op_ge (ok_I0 fun _ _ _ => rfl) ha hb (nomark _)
theorem wt_lt (ha : WE X a ta) (hb : WE X b tb) : WT X (.Compare a [.Lt] [b] pos) (tTst (tBin dLt ta tb)) := w_tcmp op_lt (ok_I0 fun _ _ _ => rfl) m_I0 ha hb (nomark _)
theorem wt_le (ha : WE X a ta) (hb : WE X b tb) : WT X (.Compare a [.LtE] [b] pos) (tTst (tBin dLe ta tb)) := w_tcmp op_le (ok_I0 fun _ _ _ => rfl) m_I0 ha hb (nomark _)
theorem wt_gt (ha : WE X a ta) (hb : WE X b tb) : WT X (.Compare a [.Gt] [b] pos) (tTst (tBin dGt ta tb)) := w_tcmp op_gt (ok_I0 fun _ _ _ => rfl) m_I0 ha hb (nomark _)
theorem wt_ge (ha : WE X a ta) (hb : WE X b tb) : WT X (.Compare a [.GtE] [b] pos) (tTst (tBin dGe ta tb)) := w_tcmp op_ge (ok_I0 fun _ _ _ => rfl) m_I0 ha hb (nomark _)
mutual
/-- no dict within -/
def noD : PyData → Bool
  | .list xs => noDs xs
  | .tuple xs => noDs xs
  | .dict _ => false
  | _ => true
def noDs : List PyData → Bool
  | [] => true
  | x :: xs => noD x && noDs xs
end
mutual
theorem noD_lay : ∀ {d : PyData}, d.canLay0 = true → noD d = true
  | .none, _ => rfl
  | .bool _, _ => rfl
  | .int _, _ => rfl
  | .str _, _ => rfl
  | .list xs, h => noDs_lay (xs := xs) (by simpa [PyData.canLay0] using h)
  | .tuple xs, h => noDs_lay (xs := xs) (by simpa [PyData.canLay0] using h)
  | .dict _, h => by simp [PyData.canLay0] at h
theorem noDs_lay : ∀ {xs : List PyData}, PyData.canLayAll0 xs = true → noDs xs = true
  | [], _ => rfl
  | x :: xs, h => by
    simp only [PyData.canLayAll0, Bool.and_eq_true] at h
    simp only [noDs, Bool.and_eq_true]
    exact ⟨noD_lay h.1, noDs_lay h.2⟩
end
mutual
theorem dp_of {H : Hp} : ∀ {d : PyData} {v : V}, noD d = true → Rep K H d v → Dp K H v d
  | .none, _, _, h => by rw [show _ = V.non from h]; exact .non
  | .bool b, _, _, h => by rw [show _ = V.bl b from h]; exact .bl b
  | .int i, _, _, h => by rw [show _ = V.int i from h]; exact .int i
  | .str z, _, _, h => by rw [show _ = V.str z from h]; exact .str z
  | .list xs, _, n, ⟨a, vs, e, s, r⟩ => by subst e; exact .lst s.seq (dps_of (ds := xs) n r)
  | .tuple xs, _, n, ⟨a, vs, e, s, r⟩ => by subst e; exact .tup s (dps_of (ds := xs) n r)
  | .dict _, _, n, h => by simp [noD] at n
theorem dps_of {H : Hp} : ∀ {ds : List PyData} {vs : List V}, noDs ds = true → Reps K H ds vs → DpAll K H vs ds
  | [], _, _, h => by rw [show _ = [] from h]; exact .nil
  | x :: xs, _, n, ⟨_, _, e, r, t⟩ => by
    simp only [noDs, Bool.and_eq_true] at n
    subst e; exact .cons (dp_of n.1 r) (dps_of n.2 t)
end
theorem dp_ofR {H : Hp} : ∀ {d : PyData} {v : V}, noD d = true → RepR K H d v → Dp K H v d
  | .list xs, _, n, ⟨a, vs, e, s, r⟩ => by subst e; exact .lst s.seq (dps_of (ds := xs) n r)
  | .none, _, n, h => dp_of (d := .none) n h
  | .bool b, _, n, h => dp_of (d := .bool b) n h
  | .int i, _, n, h => dp_of (d := .int i) n h
  | .str z, _, n, h => dp_of (d := .str z) n h
  | .tuple xs, _, n, h => dp_of (d := .tuple xs) n h
  | .dict _, _, n, h => dp_of (d := .dict _) n h
/-- == -/
@[reducible] def dEq : OpD := fun a b k => match a, b with
  | .int i, .int j => k (.bool (decide (i = j)))
  | .str i, .str j => k (.bool (decide (i = j)))
  | .bool i, .bool j => k (.bool (decide (i = j)))
  | a, b => (SeqAt.shaped a = true ∧ SeqAt.shaped b = true) ∧ k (.bool (PyData.eqv a b))
@[reducible] def dNe : OpD := fun a b k => match a, b with
  | .int i, .int j => k (.bool (bnot (decide (i = j))))
  | .str i, .str j => k (.bool (bnot (decide (i = j))))
  | .bool i, .bool j => k (.bool (bnot (decide (i = j))))
  | a, b => (SeqAt.shaped a = true ∧ SeqAt.shaped b = true) ∧ k (.bool (bnot (PyData.eqv a b)))
abbrev rEqA (K : PySem.W.Frag) : R2 := fun x y H Q => rEq x y H Q ∨ rEqD K x y H Q
abbrev rNeA (K : PySem.W.Frag) : R2 := fun x y H Q => rNe x y H Q ∨ rNeD K x y H Q
theorem m_eq : R2m (rEqA K) := fun _ _ _ _ _ h z => z.imp (fun ⟨a, q⟩ => ⟨a, h _ _ q⟩) fun ⟨d, e, a1, a2, a3, a4, q⟩ => ⟨d, e, a1, a2, a3, a4, h _ _ q⟩
theorem m_ne : R2m (rNeA K) := fun _ _ _ _ _ h z => z.imp (fun ⟨a, q⟩ => ⟨a, h _ _ q⟩) fun ⟨d, e, a1, a2, a3, a4, q⟩ => ⟨d, e, a1, a2, a3, a4, h _ _ q⟩
theorem decV_int {i j : Int} : decide (V.int i = V.int j) = decide (i = j) := by by_cases h : i = j <;> simp [h]
theorem decV_str {i j : Str} : decide (V.str i = V.str j) = decide (i = j) := by by_cases h : i = j <;> simp [h]
theorem decV_bl {i j : Bool} : decide (V.bl i = V.bl j) = decide (i = j) := by by_cases h : i = j <;> simp [h]
theorem ok_eq : OpdOk K (rEqA K) dEq := by
  intro H a b va vb k Q ra rb h q
  unfold dEq at h
  split at h
  · rename_i i j
    rw [show va = V.int i from ra, show vb = V.int j from rb]
    exact .inl ⟨rfl, by rw [decV_int]; exact q.val _ _ H h rfl (.refl _)⟩
  · rename_i i j
    rw [show va = V.str i from ra, show vb = V.str j from rb]
    exact .inl ⟨rfl, by rw [decV_str]; exact q.val _ _ H h rfl (.refl _)⟩
  · rename_i i j
    rw [show va = V.bl i from ra, show vb = V.bl j from rb]
    exact .inl ⟨rfl, by rw [decV_bl]; exact q.val _ _ H h rfl (.refl _)⟩
  · exact .inr ⟨_, _, dp_ofR (noD_lay (SeqAt.canLay_of_shaped h.1.1)) ra, dp_ofR (noD_lay (SeqAt.canLay_of_shaped h.1.2)) rb, h.1.1, h.1.2, q.val _ _ H h.2 rfl (.refl _)⟩
theorem ok_ne : OpdOk K (rNeA K) dNe := by
  intro H a b va vb k Q ra rb h q
  unfold dNe at h
  simp only [bnot_eq] at h
  split at h
  · rename_i i j
    rw [show va = V.int i from ra, show vb = V.int j from rb]
    exact .inl ⟨rfl, by rw [decV_int]; exact q.val _ _ H h rfl (.refl _)⟩
  · rename_i i j
    rw [show va = V.str i from ra, show vb = V.str j from rb]
    exact .inl ⟨rfl, by rw [decV_str]; exact q.val _ _ H h rfl (.refl _)⟩
  · rename_i i j
    rw [show va = V.bl i from ra, show vb = V.bl j from rb]
    exact .inl ⟨rfl, by rw [decV_bl]; exact q.val _ _ H h rfl (.refl _)⟩
  · exact .inr ⟨_, _, dp_ofR (noD_lay (SeqAt.canLay_of_shaped h.1.1)) ra, dp_ofR (noD_lay (SeqAt.canLay_of_shaped h.1.2)) rb, h.1.1, h.1.2, q.val _ _ H h.2 rfl (.refl _)⟩
variable {k : Nat}
theorem w_eq (hr : Room k X.A) (ha : WE X a ta) (hb : WE X b tb) : WE X (.Compare a [.Eq] [b] pos) (tBin dEq ta tb) := w_cmp (op_eq.or (op_eqD hr.units)) ok_eq ha hb (nomark _)
theorem w_ne' (hr : Room k X.A) (ha : WE X a ta) (hb : WE X b tb) : WE X (.Compare a [.NotEq] [b] pos) (tBin dNe ta tb) := w_cmp (op_ne.or (op_neD hr.units)) ok_ne ha hb (nomark _)
theorem wt_eq (hr : Room k X.A) (ha : WE X a ta) (hb : WE X b tb) : WT X (.Compare a [.Eq] [b] pos) (tTst (tBin dEq ta tb)) := w_tcmp (op_eq.or (op_eqD hr.units)) ok_eq m_eq ha hb (nomark _)
theorem wt_ne (hr : Room k X.A) (ha : WE X a ta) (hb : WE X b tb) : WT X (.Compare a [.NotEq] [b] pos) (tTst (tBin dNe ta tb)) := w_tcmp (op_ne.or (op_neD hr.units)) ok_ne m_ne ha hb (nomark _)
@[reducible] def isNone : PyData → Bool
  | .none => true
  | _ => false
theorem none_of {H : Hp} : ∀ {d : PyData} {v : V}, RepR K H d v → decide (v = .non) = isNone d
  | .none, _, h => by rw [show _ = V.non from h]; rfl
  | .bool b, _, h => by rw [show _ = V.bl b from h]; rfl
  | .int i, _, h => by rw [show _ = V.int i from h]; rfl
  | .str z, _, h => by rw [show _ = V.str z from h]; rfl
  | .list xs, _, ⟨a, vs, e, s, r⟩ => by subst e; rfl
  | .tuple xs, _, ⟨a, vs, e, s, r⟩ => by subst e; rfl
  | .dict _, _, ⟨a, ps, e, _⟩ => by subst e; rfl
@[reducible] def dIs (f : Bool → Bool) : OpD := fun a b k => match b with
  | .none => k (.bool (f (isNone a)))
  | _ => False
theorem ok_isN : OpdOk K (fun x y H Q => y = .non ∧ Q (.bl (decide (x = .non))) H) (dIs id) := by
  intro H a b va vb k Q ra rb h q
  unfold dIs at h
  split at h
  · exact ⟨rb, by rw [none_of ra]; exact q.val _ _ H h rfl (.refl _)⟩
  · exact h.elim
theorem ok_notN : OpdOk K (fun x y H Q => y = .non ∧ Q (.bl (!decide (x = .non))) H) (dIs bnot) := by
  intro H a b va vb k Q ra rb h q
  unfold dIs at h
  simp only [bnot_eq] at h
  split at h
  · exact ⟨rb, by rw [none_of ra]; exact q.val _ _ H h rfl (.refl _)⟩
  · exact h.elim
theorem m_is {g : V → V} : R2m (fun x y H Q => y = .non ∧ Q (g x) H) := fun _ _ _ _ _ h ⟨a, q⟩ => ⟨a, h _ _ q⟩
theorem w_isN (ha : WE X a ta) (hb : WE X b tb) : WE X (.Compare a [.Is] [b] pos) (tBin (dIs id) ta tb) := w_cmp op_isN ok_isN ha hb (nomark _)
theorem w_notN (ha : WE X a ta) (hb : WE X b tb) : WE X (.Compare a [.IsNot] [b] pos) (tBin (dIs bnot) ta tb) := w_cmp op_notN ok_notN ha hb (nomark _)
theorem wt_isN (ha : WE X a ta) (hb : WE X b tb) : WT X (.Compare a [.Is] [b] pos) (tTst (tBin (dIs id) ta tb)) := w_tcmp op_isN ok_isN (m_is (g := fun x => .bl (decide (x = .non)))) ha hb (nomark _)
theorem wt_notN (ha : WE X a ta) (hb : WE X b tb) : WT X (.Compare a [.IsNot] [b] pos) (tTst (tBin (dIs bnot) ta tb)) := w_tcmp op_notN ok_notN (m_is (g := fun x => .bl (!decide (x = .non)))) ha hb (nomark _)
/-- a < b < c -/
@[reducible] def tCh (p p' : OpD) (ta tb tc : TEp) : TEp := fun ρ S R => ta ρ S fun x S1 => tb ρ S1 fun y S2 => match vw S2 x, vw S2 y with
  | some a, some b => p a b fun z => match z with
    | .bool k => Br k (tc ρ S2 fun w S3 => match vw S3 y, vw S3 w with
        | some b', some c => p' b' c fun r => R (.d r) S3
        | _, _ => False) (R (.d (.bool false)) S2)
    | _ => False
  | _, _ => False
theorem chain_up {e : Expr} {tc : TEp} {r r' : R2} {pp pp' : OpD} (hp : OpdOk X.K r pp) (hp' : OpdOk X.K r' pp') {c : FP} {σ : L2.St} {H : Hp} {Q : VK} (h : up X.K c (tCh pp pp' ta tb tc) σ H Q) (hr : R2m r) : tChain r r' (up X.K c ta) (up X.K c tb) (up X.K c tc) σ H (Fz Q) := by
  obtain ⟨μ, ρ, S, R, f, h, q⟩ := h
  refine ⟨μ, ρ, S, _, f, h, fun x S1 h1 μ1 v1 H1 p1 f1 r1 g1 => ⟨μ1, ρ, S1, _, f1, h1, fun y S2 h2 μ2 v2 H2 p2 f2 r2 g2 => ?_⟩⟩
  split at h2
  · rename_i d e e1 e2
    have base := hp H2 d e v1 v2 _ (fun z H3 => ∃ w, Rep X.K H3 w z ∧ Same H2 H3 ∧ (match w with
      | .bool k => Br k (tc ρ S2 fun w S3 => match vw S3 y, vw S3 w with
          | some b', some c => pp' b' c fun r => R (.d r) S3
          | _, _ => False) (R (.d (.bool false)) S2)
      | _ => False)) (vw_rep f2 (r1.mono g2 p2) e1) (vw_rep f2 r2 e2) h2 ⟨fun r v H' hk rep same => ⟨r, rep, same, hk⟩, fun xs p vs hk hn reps => hk.elim⟩
    refine hr _ _ _ _ _ (fun z H3 ⟨w, rw', same, hk⟩ => ?_) base
    split at hk
    · rename_i kk
      refine ⟨kk, rw', ?_⟩
      cases kk with
      | true =>
        refine iteT ⟨μ2, ρ, S2, _, f2.same same, hk, fun w S3 h3 μ3 v3 H4 p3 f3 r3 g3 => ?_⟩
        split at h3
        · rename_i b' c' e3 e4
          exact hp' H4 b' c' v2 v3 _ _ (vw_rep f3 (r2.mono ((Ge.of_same same).trans g3) p3) e3) (vw_rep f3 r3 e4) h3 (retD_of f3 q (p1.trans (p2.trans p3)) (g1.trans (g2.trans ((Ge.of_same same).trans g3))))
        · exact h3.elim
      | false => exact iteF (.inl (q (.d (.bool false)) S2 hk μ2 _ H3 (p1.trans p2) (f2.same same) rfl (g1.trans (g2.trans (.of_same same)))))
    · exact hk.elim
  · exact h2.elim
theorem w_chain {e : Expr} {tc : TEp} {op op' : CmpOp} {r r' : R2} {pp pp' : OpD} (hp : OpdOk X.K r pp) (hp' : OpdOk X.K r' pp') (hr : R2m r) (ha : WE X a ta) (hb : WE X b tb) (hc : WE X e tc)
    (hl : ∀ t1 t2 t3, PE X a t1 → PE X b t2 → PE X e t3 → PE X (.Compare a [op, op'] [b, e] pos) (tChain r r' t1 t2 t3)) : WE X (.Compare a [op, op'] [b, e] pos) (tCh pp pp' ta tb tc) :=
  ⟨fun c => pe_w (pe_freeze (hl _ _ _ (ha.pe c) (hb.pe c) (hc.pe c))) fun _ _ _ h => chain_up (e := e) hp hp' h hr⟩
end
end Pu

set_option autoImplicit false
namespace Pu
open PySem PySem.Spec PyProof.Rows L2

/-! ### items, lengths, kinds -/
@[reducible] def nthD : List PyData → Nat → Option PyData
  | [], _ => none
  | x :: _, 0 => some x
  | _ :: r, i + 1 => nthD r i
theorem nthD_eq : ∀ (xs : List PyData) (i : Nat), nthD xs i = xs[i]?
  | [], _ => by simp [nthD]
  | _ :: _, 0 => by simp [nthD]
  | _ :: r, i + 1 => by simpa [nthD] using nthD_eq r i
@[reducible] def revD : List PyData → List PyData → List PyData
  | [], acc => acc
  | x :: r, acc => revD r (x :: acc)
theorem revD_eq : ∀ xs acc : List PyData, revD xs acc = xs.reverse ++ acc
  | [], _ => rfl
  | x :: r, acc => by rw [revD, revD_eq r]; simp
@[reducible] def ixD (xs : List PyData) : Int → Option PyData
  | .ofNat n => nthD xs n
  | .negSucc n => nthD (revD xs []) n
theorem ixD_at {α : Type} {F : PyData → α → Prop} {xs : List PyData} {vs : List α} (hl : xs.length = vs.length) {i : Int} {d : PyData} (h : ixD xs i = some d) (hg : ∀ (j : Nat) d, xs[j]? = some d → ∃ v, vs[j]? = some v ∧ F d v) : ∃ v, atI vs i = some v ∧ F d v := by
  cases i with
  | ofNat n =>
    simp only [ixD, nthD_eq] at h
    obtain ⟨v, h1, h2⟩ := hg n d h
    exact ⟨v, atI_nat h1, h2⟩
  | negSucc n =>
    simp only [ixD, nthD_eq, revD_eq, List.append_nil] at h
    have hn : n < xs.length := by
      have := (List.getElem?_eq_some_iff.mp h).1
      rwa [List.length_reverse] at this
    rw [List.getElem?_reverse hn] at h
    obtain ⟨v, h1, h2⟩ := hg _ d h
    refine ⟨v, ?_, h2⟩
    unfold atI ixN
    rw [if_neg (by omega), if_pos (by omega)]
    simp only [Option.bind_some]
    rw [← h1]; congr 1; omega
theorem ixD_nn {xs : List PyData} {i : Int} (h : 0 ≤ i) : ixD xs i = xs[i.toNat]? := by
  cases i with
  | ofNat n => simp only [ixD, nthD_eq]; rfl
  | negSucc n => omega
section
variable {X : Cx} {K : PySem.W.Frag} {a b e : Expr} {ta tb te : TEp} {pos : Pos} {k n : Nat} {x : Str} {p : Pos} {es : List Expr} {t : TAp}
@[reducible] def dIx : OpD := fun a b k => match a, b with
  | .list xs, .int i => match ixD xs i with
    | some d => k d
    | none => False
  | .tuple xs, .int i => match ixD xs i with
    | some d => k d
    | none => False
  | _, _ => False
theorem ok_ix : OpdOk K (rIx K) dIx := by
  intro H a b va vb k Q ra rb h q
  unfold dIx at h
  split at h
  · rename_i xs i
    obtain ⟨l, us, rfl, s, r⟩ := ra
    split at h
    · rename_i d e
      obtain ⟨v, h1, h2⟩ := ixD_at r.length e fun j d hj => r.get hj
      exact .inl ⟨l, us, i, v, rfl, rb, s.seq, h1, q.val _ _ H h h2 (.refl _)⟩
    · exact h.elim
  · rename_i xs i
    obtain ⟨l, us, rfl, s, r⟩ := ra
    split at h
    · rename_i d e
      obtain ⟨v, h1, h2⟩ := ixD_at r.length e fun j d hj => r.get hj
      exact .inr (.inl ⟨l, us, i, v, rfl, rb, s, h1, q.val _ _ H h h2 (.refl _)⟩)
    · exact h.elim
  · exact h.elim
theorem w_ix (ha : WE X a ta) (hb : WE X b tb) (hs : PlainIx b) : WE X (.Subscript a b pos) (tBin dIx ta tb) :=
  ⟨fun c => pe_w (pe_freeze (pe_ix ix_seq (ha.pe c) (hb.pe c) hs)) fun _ _ _ h => bin_up ok_ix h⟩
/-- an item at a place that is reckoned -/
@[irreducible] def onS (o : Option PyData) (k : PyData → Prop) : Prop := ∃ d, o = some d ∧ k d
theorem ix_ok {o : Option PyData} {d : PyData} {k : PyData → Prop} (h : o = some d) (hk : k d) : onS o k := by
  unfold onS; exact ⟨d, h, hk⟩
@[reducible] def dIxJ : OpD := fun a b k => match a, b with
  | .list xs, .int i => onS (ixD xs i) k
  | .tuple xs, .int i => onS (ixD xs i) k
  | _, _ => False
theorem ix_any {xs : List PyData} {i : Int} {k : PyData → Prop} (h0 : 0 ≤ i) (h1 : i < xs.length) (hk : ∀ d ∈ xs, k d) : onS (ixD xs i) k := by
  have hl : i.toNat < xs.length := by omega
  exact ix_ok (by rw [ixD_nn h0, List.getElem?_eq_getElem hl]) (hk _ (List.getElem_mem hl))
theorem ok_ixJ : OpdOk K (rIx K) dIxJ := by
  intro H a b va vb k Q ra rb h q
  refine ok_ix H a b va vb k Q ra rb ?_ q
  unfold dIxJ at h
  split at h
  · unfold onS at h
    obtain ⟨d, e, hk⟩ := h
    simp only [dIx]
    rw [e]; exact hk
  · unfold onS at h
    obtain ⟨d, e, hk⟩ := h
    simp only [dIx]
    rw [e]; exact hk
  · exact h.elim
theorem w_ixJ (ha : WE X a ta) (hb : WE X b tb) (hs : PlainIx b) : WE X (.Subscript a b pos) (tBin dIxJ ta tb) :=
  ⟨fun c => pe_w (pe_freeze (pe_ix ix_seq (ha.pe c) (hb.pe c) hs)) fun _ _ _ h => bin_up ok_ixJ h⟩
/-- len -/
@[reducible] def aLen : OpA := fun ds k => match ds with
  | [.list xs] => k (.int xs.length)
  | [.tuple xs] => k (.int xs.length)
  | [.str z] => z.length ≤ sizeLine ∧ k (.int z.length)
  | _ => False
theorem ok_len : OpaOk K (fun xs H Q => (∃ p ys, xs = [.ref p] ∧ (SqL K H p ys ∨ SqT K H p ys) ∧ Q (.int ys.length) H) ∨ (∃ z, xs = [.str z] ∧ z.length ≤ sizeLine ∧ Q (.int z.length) H)) aLen := by
  intro H ds vs k Q r h q
  unfold aLen at h
  split at h
  · rename_i xs
    cases r with
    | cons r t =>
      cases t
      obtain ⟨l, us, rfl, s, rr⟩ := r
      exact .inl ⟨l, us, rfl, .inl s.seq, by rw [← rr.length]; exact q.val _ _ H h rfl (.refl _)⟩
  · rename_i xs
    cases r with
    | cons r t =>
      cases t
      obtain ⟨l, us, rfl, s, rr⟩ := r
      exact .inl ⟨l, us, rfl, .inr s, by rw [← rr.length]; exact q.val _ _ H h rfl (.refl _)⟩
  · rename_i z
    cases r with
    | cons r t =>
      cases t
      exact .inr ⟨z, by rw [show _ = V.str z from r], h.1, q.val _ _ H h.2 rfl (.refl _)⟩
  · exact h.elim
theorem w_len (hg : Gl X "len") (hm : X.mg "len" = none) (ha : WA X [e] n t) (hl : ∀ r t, CallR X (.builtin "len") r → PA X [e] t → PE X (.Call (.Name "len" p) [e] [] pos) (tCB r t)) : WE X (.Call (.Name "len" p) [e] [] pos) (tBi aLen t) :=
  w_bi ok_len ha fun t h => hl _ t (call_len_seq.or call_len_str) h
/-- abs, min, max of ints -/
@[reducible] def aAbs : OpA := fun ds k => match ds with
  | [.int i] => k (.int (if i < 0 then -i else i))
  | _ => False
@[reducible] def aMax2 : OpA := fun ds k => match ds with
  | [.int i, .int j] => k (.int (if j > i then j else i))
  | _ => False
@[reducible] def aMin2 : OpA := fun ds k => match ds with
  | [.int i, .int j] => k (.int (if j < i then j else i))
  | _ => False
@[reducible] def aInt : OpA := fun ds k => match ds with
  | [.int i] => k (.int i)
  | [.bool b] => k (.int (if b = true then 1 else 0))
  | _ => False
theorem ok_abs : OpaOk K (fun xs H Q => ∃ i, xs = [.int i] ∧ Q (.int (if i < 0 then -i else i)) H) aAbs := by
  intro H ds vs k Q r h q
  unfold aAbs at h
  split at h
  · rename_i i
    cases r with
    | cons r t =>
      cases t
      exact ⟨i, by rw [show _ = V.int i from r], q.val _ _ H h rfl (.refl _)⟩
  · exact h.elim
theorem ok_max2 : OpaOk K (fun xs H Q => ∃ i j, xs = [.int i, .int j] ∧ Q (.int (if j > i then j else i)) H) aMax2 := by
  intro H ds vs k Q r h q
  unfold aMax2 at h
  split at h
  · rename_i i j
    cases r with
    | cons r t =>
      cases t with
      | cons r' t =>
        cases t
        exact ⟨i, j, by rw [show _ = V.int i from r, show _ = V.int j from r'], q.val _ _ H h rfl (.refl _)⟩
  · exact h.elim
theorem ok_min2 : OpaOk K (fun xs H Q => ∃ i j, xs = [.int i, .int j] ∧ Q (.int (if j < i then j else i)) H) aMin2 := by
  intro H ds vs k Q r h q
  unfold aMin2 at h
  split at h
  · rename_i i j
    cases r with
    | cons r t =>
      cases t with
      | cons r' t =>
        cases t
        exact ⟨i, j, by rw [show _ = V.int i from r, show _ = V.int j from r'], q.val _ _ H h rfl (.refl _)⟩
  · exact h.elim
theorem ok_int : OpaOk K (fun xs H Q => (∃ i, xs = [.int i] ∧ Q (.int i) H) ∨ ∃ k, xs = [.bl k] ∧ Q (.int (if k then 1 else 0)) H) aInt := by
  intro H ds vs k Q r h q
  unfold aInt at h
  split at h
  · rename_i i
    cases r with
    | cons r t =>
      cases t
      exact .inl ⟨i, by rw [show _ = V.int i from r], q.val _ _ H h rfl (.refl _)⟩
  · rename_i b
    cases r with
    | cons r t =>
      cases t
      exact .inr ⟨b, by rw [show _ = V.bl b from r], q.val _ _ H h rfl (.refl _)⟩
  · exact h.elim
/-- lists of bools, of ints -/
@[reducible] def boolsD : List PyData → Option (List Bool)
  | [] => some []
  | .bool b :: r => match boolsD r with
    | some bs => some (b :: bs)
    | none => none
  | _ => none
@[reducible] def intsD : List PyData → Option (List Int)
  | [] => some []
  | .int b :: r => match intsD r with
    | some bs => some (b :: bs)
    | none => none
  | _ => none
theorem boolsD_eq : ∀ {xs : List PyData} {bs : List Bool}, boolsD xs = some bs → xs = bs.map PyData.bool
  | [], bs, h => by simp only [boolsD, Option.some.injEq] at h; subst h; rfl
  | .bool b :: r, bs, h => by
    simp only [boolsD] at h
    split at h
    · rename_i cs e
      cases h
      rw [boolsD_eq e]; rfl
    · cases h
  | .none :: _, _, h => by simp [boolsD] at h
  | .int _ :: _, _, h => by simp [boolsD] at h
  | .str _ :: _, _, h => by simp [boolsD] at h
  | .list _ :: _, _, h => by simp [boolsD] at h
  | .tuple _ :: _, _, h => by simp [boolsD] at h
  | .dict _ :: _, _, h => by simp [boolsD] at h
theorem boolsD_map : ∀ bs : List Bool, boolsD (bs.map PyData.bool) = some bs
  | [] => rfl
  | b :: r => by simp only [List.map_cons, boolsD, boolsD_map r]
theorem intsD_eq : ∀ {xs : List PyData} {bs : List Int}, intsD xs = some bs → xs = bs.map PyData.int
  | [], bs, h => by simp only [intsD, Option.some.injEq] at h; subst h; rfl
  | .int b :: r, bs, h => by
    simp only [intsD] at h
    split at h
    · rename_i cs e
      cases h
      rw [intsD_eq e]; rfl
    · cases h
  | .none :: _, _, h => by simp [intsD] at h
  | .bool _ :: _, _, h => by simp [intsD] at h
  | .str _ :: _, _, h => by simp [intsD] at h
  | .list _ :: _, _, h => by simp [intsD] at h
  | .tuple _ :: _, _, h => by simp [intsD] at h
  | .dict _ :: _, _, h => by simp [intsD] at h
theorem intsD_map : ∀ bs : List Int, intsD (bs.map PyData.int) = some bs
  | [] => rfl
  | b :: r => by simp only [List.map_cons, intsD, intsD_map r]
@[reducible] def allB : List Bool → Bool
  | [] => true
  | b :: r => match b with
    | true => allB r
    | false => false
@[reducible] def anyB : List Bool → Bool
  | [] => false
  | b :: r => match b with
    | true => true
    | false => anyB r
theorem allB_eq : ∀ bs : List Bool, allB bs = bs.all id
  | [] => rfl
  | true :: r => by rw [allB, allB_eq r]; rfl
  | false :: r => rfl
theorem anyB_eq : ∀ bs : List Bool, anyB bs = bs.any id
  | [] => rfl
  | true :: r => rfl
  | false :: r => by rw [anyB, anyB_eq r]; rfl
@[reducible] def mapD (f : PyData → PyData) : List PyData → List PyData
  | [] => []
  | x :: r => f x :: mapD f r
theorem mapD_eq (f : PyData → PyData) : ∀ xs : List PyData, mapD f xs = xs.map f
  | [] => rfl
  | x :: r => by rw [mapD, mapD_eq f r]; rfl
@[reducible] def aAll : OpA := fun ds k => match ds with
  | [.list xs] => match boolsD xs with
    | some bs => k (.bool (allB bs))
    | none => False
  | _ => False
@[reducible] def aAny : OpA := fun ds k => match ds with
  | [.list xs] => match boolsD xs with
    | some bs => k (.bool (anyB bs))
    | none => False
  | _ => False
@[reducible] def aSum : OpA := fun ds k => match ds with
  | [.list xs] => match intsD xs with
    | some bs => k (.int bs.sum)
    | none => False
  | _ => False
theorem ok_all : OpaOk K (rAll K) aAll := by
  intro H ds vs k Q r h q
  unfold aAll at h
  simp only [allB_eq] at h
  split at h
  · rename_i xs
    split at h
    · rename_i bs e
      cases r with
      | cons r t =>
        cases t
        obtain ⟨l, us, rfl, s, rr⟩ := r
        rw [boolsD_eq e] at rr
        rw [Reps.bools rr] at s
        exact ⟨l, bs, rfl, s.seq, q.val _ _ H h rfl (.refl _)⟩
    · exact h.elim
  · exact h.elim
theorem ok_any : OpaOk K (rAny K) aAny := by
  intro H ds vs k Q r h q
  unfold aAny at h
  simp only [anyB_eq] at h
  split at h
  · rename_i xs
    split at h
    · rename_i bs e
      cases r with
      | cons r t =>
        cases t
        obtain ⟨l, us, rfl, s, rr⟩ := r
        rw [boolsD_eq e] at rr
        rw [Reps.bools rr] at s
        exact ⟨l, bs, rfl, s.seq, q.val _ _ H h rfl (.refl _)⟩
    · exact h.elim
  · exact h.elim
theorem ok_sum : OpaOk K (rSum K) aSum := by
  intro H ds vs k Q r h q
  unfold aSum at h
  split at h
  · rename_i xs
    split at h
    · rename_i bs e
      cases r with
      | cons r t =>
        cases t
        obtain ⟨l, us, rfl, s, rr⟩ := r
        rw [intsD_eq e] at rr
        rw [Reps.ints rr] at s
        exact ⟨l, bs, rfl, s.seq, q.val _ _ H h rfl (.refl _)⟩
    · exact h.elim
  · exact h.elim
/-- isinstance(e, T) -/
def noDict : PyData → Bool
  | .dict _ => false
  | _ => true
theorem isT_kit : ∀ (T : TyN) (d : PyData), True → kitB (tyD d) T.nm = some (isT T d) := by
  intro T d nd
  cases T <;> cases d <;> first | decide +kernel | rfl
theorem w_isi (Tn : TyN) {T : Str} {p2 : Pos} (hg : Gl X "isinstance") (hm : X.mg "isinstance" = none) (hT : Gl X T) (hmT : X.mg T = none) (hvT : bootBuiltins T = some (.type Tn.nm))
    (ha : WE X e te) (hl : ∀ t, PE X e t → PE X (.Call (.Name "isinstance" p) [e, .Name T p2] [] pos) (tCB (rIsi X.K) (tCons t (tCons (tC (.ty Tn.nm)) tNil)))) : WE X (.Call (.Name "isinstance" p) [e, .Name T p2] [] pos) (tIs Tn te) := by
  refine ⟨fun c => pe_w (hl _ (ha.pe c)) fun σ H Q ⟨μ, ρ, S, R, f, h, q⟩ => ?_⟩
  refine ⟨μ, ρ, S, _, f, h, fun x S1 h1 μ1 v1 H1 p1 f1 r1 g1 => ?_⟩
  split at h1
  · rename_i d e1
    have rr := vw_rep f1 r1 e1
    have nd : True := trivial
    exact ⟨v1, .ty Tn.nm, .type (tyD d), .type Tn.nm, isT Tn d, rfl, .ty Tn.nm, ty_of rr nd, kit_ty (isT_kit Tn d nd), q (.d (.bool (isT Tn d))) S1 h1 μ1 (.bl (isT Tn d)) H1 p1 f1 rfl g1⟩
  · exact h1.elim

/-! ### list comprehensions -/
@[reducible] def sndsR : List (Str × Nat) → List Nat
  | [] => []
  | p :: r => p.2 :: sndsR r
theorem sndsR_eq : ∀ own : List (Str × Nat), sndsR own = own.map (·.2)
  | [] => rfl
  | p :: r => by rw [sndsR, sndsR_eq r]; rfl
@[reducible] def wipeP (ρ : Rho) : List Nat → Rho
  | [] => ρ
  | v :: vs => setR (wipeP ρ vs) v none
theorem wipe_slots {K : PySem.W.Frag} {H : Hp} {μ : List Addr} {ρ : Rho} {σ : L2.St} (h : Paired (SlotR K H μ) ρ σ) : ∀ vs : List Nat, Paired (SlotR K H μ) (wipeP ρ vs) (wipe σ vs)
  | [] => h
  | v :: vs => by
    rw [wipeP, setR_eq]
    exact paired_set (F := SlotR K H μ) (x := none) (y := none) trivial v (wipe_slots h vs)
theorem wipe_get (σ : L2.St) : ∀ (vs : List Nat) (i : Nat), (wipe σ vs)[i]? = if i ∈ vs then (σ[i]?).map (fun _ => none) else σ[i]?
  | [], i => by simp [wipe]
  | v :: vs, i => by
    unfold wipe
    rw [List.getElem?_set, wipe_get σ vs i, wipe_length]
    by_cases h : v = i
    · subst h
      rw [if_pos rfl]
      by_cases hl : v < σ.length
      · rw [if_pos hl, if_pos (by simp), List.getElem?_eq_getElem hl]; rfl
      · rw [if_neg hl, if_pos (by simp), List.getElem?_eq_none (by omega)]; rfl
    · rw [if_neg h]
      by_cases hm : i ∈ vs
      · rw [if_pos hm, if_pos (by simp [hm])]
      · rw [if_neg hm, if_neg (by simp only [List.mem_cons, not_or]; exact ⟨fun e => h e.symm, hm⟩)]
theorem wipe_off {σ σ' : L2.St} {ws vs : List Nat} (h : Off ws (wipe σ vs) σ') (hs : ∀ i ∈ ws, i ∈ vs) : wipe σ' vs = wipe σ vs := by
  have h1 : σ'.length = σ.length := by rw [h.1, wipe_length]
  refine List.ext_getElem? fun i => ?_
  rw [wipe_get, wipe_get]
  by_cases hm : i ∈ vs
  · rw [if_pos hm, if_pos hm]
    by_cases hl : i < σ.length
    · rw [List.getElem?_eq_getElem hl, List.getElem?_eq_getElem (by omega)]; rfl
    · rw [List.getElem?_eq_none (by omega), List.getElem?_eq_none (by omega)]
  · rw [if_neg hm, if_neg hm, h.2 i fun z => hm (hs i z), wipe_get, if_neg hm]
/-- any frame -/
def upE (K : PySem.W.Frag) (t : TEp) : TE := fun σ H Q => ∃ c, up K c t σ H Q
def upTE (K : PySem.W.Frag) (t : TTp) : TT := fun σ H Q => ∃ c, upT K c t σ H Q
def upGE (K : PySem.W.Frag) (ws : List Nat) (g : TGp) : TG := fun v σ H Q => ∃ c, upG K c ws g v σ H Q
@[reducible] def tYesP : TTp := fun _ S R => R true S
structure WTs (X : Cx) (ifs : List Expr) (t : TTp) : Prop where
  pt : ∀ c, PTs X ifs (upT X.K c t)
theorem wts_nil : WTs X [] tYesP := ⟨fun c => ⟨fun pins s σ H Q I ⟨μ, ρ, S, R, f, h, q⟩ => pts_nil.run pins s σ H Q I (q true S h μ H (.refl _) f (.refl _))⟩⟩
theorem wts_one {c : Expr} {t : TTp} (h : WT X c t) : WTs X [c] t := ⟨fun fp => pts_one (h.pt fp)⟩
theorem PE.anyF {t : TEp} (h : WE X e t) : PE X e (upE X.K t) := ⟨fun pins s σ H Q I ⟨c, q⟩ => (h.pe c).run pins s σ H Q I q⟩
theorem PTs.anyF {ifs : List Expr} {t : TTp} (h : WTs X ifs t) : PTs X ifs (upTE X.K t) := ⟨fun pins s σ H Q I ⟨c, q⟩ => (h.pt c).run pins s σ H Q I q⟩
theorem PG.anyF {tg : Expr} {ws : List Nat} {g : TGp} (h : WG X tg ws g) : PG X tg (upGE X.K ws g) := ⟨fun pins s σ H v u Q I r ⟨c, q⟩ => (h.pg c).run pins s σ H v u Q I r q⟩
/-- the turns of a comprehension over these items -/
def LcB (g : TGp) (tt : TTp) (te : TEp) (vs : List Nat) (ρ : Rho) (R : List PyData → Sto → Prop) (items : List PyData) (S1 : Sto) : Prop := items.length ≤ sizeLine ∧ ∃ I : Nat → List PyData → Sto → Prop, I 0 [] S1 ∧
  (∀ i d acc S, items[i]? = some d → I i acc S → g d (wipeP ρ vs) fun ρ2 => tt ρ2 S fun b S2 => Br b (te ρ2 S2 fun y S3 => match y with
    | .d y => I (i + 1) (acc ++ [y]) S3
    | .cel _ => False) (I (i + 1) acc S2)) ∧ ∀ acc S, I items.length acc S → R acc S
@[reducible] def tLC (ti : TIp) (g : TGp) (tt : TTp) (te : TEp) (vs : List Nat) : TNp := fun ρ S R => ti ρ S fun items S1 => LcB g tt te vs ρ R items S1
/-- each element is told by a function of its item -/
theorem lcb_map {g : TGp} {te : TEp} {vs : List Nat} {ρ : Rho} {R : List PyData → Sto → Prop} {items : List PyData} {S : Sto} (f : PyData → PyData) (hz : items.length ≤ sizeLine)
    (h : ∀ d ∈ items, ∀ k : PQ, k (.d (f d)) S → g d (wipeP ρ vs) fun ρ2 => te ρ2 S k) (hR : R (mapD f items) S) : LcB g tYesP te vs ρ R items S := by
  refine ⟨hz, fun i acc S' => acc = (items.take i).map f ∧ S' = S, ⟨rfl, rfl⟩, ?_, ?_⟩
  · rintro i d _ _ hd ⟨rfl, rfl⟩
    refine h d (List.mem_of_getElem? hd) _ ⟨?_, rfl⟩
    rw [List.take_add_one, hd]; simp
  · rintro _ _ ⟨rfl, rfl⟩
    rw [List.take_length, ← mapD_eq]; exact hR
/-- .. and kept where a function of the item says so -/
theorem lcb_filter {g : TGp} {tt : TTp} {te : TEp} {vs : List Nat} {ρ : Rho} {R : List PyData → Sto → Prop} {items : List PyData} {S : Sto} (p : PyData → Bool) (f : PyData → PyData) (hz : items.length ≤ sizeLine)
    (h : ∀ d ∈ items, ∀ (k : PQ) (k0 : Sto → Prop), (p d = true → k (.d (f d)) S) → (p d = false → k0 S) → g d (wipeP ρ vs) fun ρ2 => tt ρ2 S fun b S2 => Br b (te ρ2 S2 k) (k0 S2)) (hR : R ((items.filter p).map f) S) : LcB g tt te vs ρ R items S := by
  refine ⟨hz, fun i acc S' => acc = ((items.take i).filter p).map f ∧ S' = S, ⟨rfl, rfl⟩, ?_, ?_⟩
  · rintro i d _ _ hd ⟨rfl, rfl⟩
    refine h d (List.mem_of_getElem? hd) _ (fun S2 => _) (fun hp => ⟨?_, rfl⟩) (fun hp => ⟨?_, rfl⟩)
    · rw [List.take_add_one, hd]; simp [hp]
    · rw [List.take_add_one, hd]; simp [hp]
  · rintro _ _ ⟨rfl, rfl⟩
    rw [List.take_length]; exact hR
theorem lc_up {tg iter : Expr} {ti : TIp} {ws : List Nat} {g : TGp} {tt : TTp} {te : TEp} {vs : List Nat} {c : FP} {wi : TI} {σ : L2.St} {H : Hp} {Q : VK}
    (hw : ∀ μ ρ S σ H R (Q : It → Hp → Prop), Fr X.K c μ ρ S σ H → ti ρ S R → (∀ items S1, R items S1 → ∀ μ1 H1 J, Pre μ μ1 → Fr X.K c μ1 ρ S1 σ H1 → Ge H H1 → ItIs X.K J items H1 → Q J H1) → wi σ H Q)
    (hv : ∀ i ∈ ws, i ∈ vs) (h : upN X.K c (tLC ti g tt te vs) σ H Q) : tLc wi (upGE X.K ws g) (upTE X.K tt) (upE X.K te) vs σ H Q := by
  obtain ⟨μ, ρ, S, R, f, h, q⟩ := h
  refine hw μ ρ S σ H _ _ f h fun items S1 ⟨hz, I, i0, step, done⟩ μ1 H1 J p1 f1 g1 it D hD => ?_
  refine ⟨fun i m H' => m = items.length - i ∧ i ≤ items.length ∧ ∃ μ' S' acc us, Pre μ1 μ' ∧ Ge H1 H' ∧ Fr X.K c μ' ρ S' σ H' ∧ H' D = some (.lst us) ∧ D ∉ μ' ∧ (c.F0 D ∨ c.H0 D = none) ∧ Reps X.K H' acc us ∧ acc.length ≤ i ∧ I i acc S',
    ⟨items.length, by simp, Nat.zero_le _, μ1, S1, [], [], .refl _, .new hD, f1.same (same_new hD), upd_same, f1.notIn hD, f1.noH0 hD, rfl, Nat.zero_le _, i0⟩, ?_⟩
  rintro i m H' ⟨rfl, hle, μ', S', acc, us, p', g', f', hDu, nD, oD, rr, hl, ii⟩
  by_cases hlt : i < items.length
  · refine .inr ⟨it.go H' g' i hlt, fun H2 => ∃ μ2 S2 acc2 us2, Pre μ1 μ2 ∧ Ge H1 H2 ∧ Fr X.K c μ2 ρ S2 σ H2 ∧ H2 D = some (.lst us2) ∧ D ∉ μ2 ∧ (c.F0 D ∨ c.H0 D = none) ∧ Reps X.K H2 acc2 us2 ∧ acc2.length ≤ i + 1 ∧ I (i + 1) acc2 S2,
      fun H2 hx => ⟨items.length - (i + 1), by omega, rfl, hlt, hx⟩, fun x H2 y => ?_⟩
    have hd : items[i]? = some items[i] := by simp [hlt]
    obtain ⟨rx, same⟩ := it.yld H' g' i _ hd x H2 y
    have f2 := f'.same same
    have f2w : Fr X.K c μ' (wipeP ρ vs) S' (wipe σ vs) H2 := f2.slots (wipe_slots f2.env vs)
    have fs := f2w.sub
    refine ⟨_, μ', wipeP ρ vs, S', _, _, fs, rx, step i _ acc S' hd ii, fun ρ3 h3 σ3 f3 off => ⟨wipe_off off hv, _, μ', ρ3, S', _, f3, h3, fun b S4 h4 μ4 H4 p4 f4 g4 => ?_⟩⟩
    have keepD : ∀ {H5 : Hp} {μ5 ρ5 S5 σ5}, Fr X.K ⟨H2, fun a => a ∈ μ'⟩ μ5 ρ5 S5 σ5 H5 → H5 D = some (.lst us) ∧ D ∉ μ5 := fun {H5 μ5 ρ5 S5 σ5} f5 => by
      have e : H2 D = some (.lst us) := same _ _ hDu
      refine ⟨f5.keep D _ e nD, fun hm => ?_⟩
      rcases f5.own D hm with z | z
      · exact nD z
      · have z' : H2 D = none := z
        rw [e] at z'; cases z'
    cases b with
    | false =>
      have h4' : I (i + 1) acc S4 := h4
      obtain ⟨k1, k2⟩ := keepD f4
      have f5 : Fr X.K c μ4 ρ S4 σ H4 := (f2w.back f4).slots (paired_imp f2.env fun _ _ z => SlotR.mono g4 p4 z)
      exact iteF ⟨μ4, S4, acc, us, p'.trans p4, g'.trans ((Ge.of_same same).trans g4), f5, k1, k2, oD, Reps.mono ((Ge.of_same same).trans g4) _ _ rr, by omega, h4'⟩
    | true =>
      refine iteT ⟨_, μ4, ρ3, S4, _, f4, h4, fun y S5 h5 μ5 v5 H5 p5 f5 r5 g5 => ?_⟩
      cases y with
      | cel _ => exact h5.elim
      | d y =>
        obtain ⟨k1, k2⟩ := keepD f5
        have gg : Ge H' H5 := (Ge.of_same same).trans (g4.trans g5)
        have r6 : Reps X.K H5 acc us := Reps.mono gg _ _ rr
        have f6 : Fr X.K c μ5 ρ S5 σ H5 := (f2w.back f5).slots (paired_imp f2.env fun _ _ z => SlotR.mono (g4.trans g5) (p4.trans p5) z)
        have g6 : Ge H5 (upd H5 D (.lst (us ++ [v5]))) := .put k1
        refine ⟨us, k1, ?_, μ5, S5, acc ++ [y], us ++ [v5], p'.trans (p4.trans p5), g'.trans (gg.trans g6), ?_, upd_same, k2, oD, Reps.mono g6 _ _ (r6.append (.one r5)), by rw [List.length_append]; simp; omega, h5⟩
        · rw [← r6.length]; omega
        · refine ⟨paired_imp f6.env fun _ _ z => SlotR.mono g6 (.refl _) z, paired_at f6.cel fun j z a e1 e2 cr => ?_, f6.nd, f6.own, fun b ob e nb => ?_⟩
          · have na : a ≠ D := fun h => k2 (h ▸ List.mem_of_getElem? e2)
            exact cr.move (fun o e => by rw [upd_ne na]; exact e) g6
          · have nb' : b ≠ D := fun h => by
              subst h
              rcases oD with z | z
              · exact nb z
              · rw [z] at e; cases e
            rw [upd_ne nb']; exact f6.keep b ob e nb
  · have e : i = items.length := by omega
    subst e
    exact .inl ⟨it.stop H' g', q acc S' (done acc S' ii) μ' D us H' (p1.trans p') f' hDu nD oD rr (g1.trans g')⟩
theorem wn_lc {elt tg iter : Expr} {ifs : List Expr} {scope : Scope} {own : List (Str × Nat)} {ti : TIp} {ws : List Nat} {g : TGp} {tt : TTp} {te : TEp} (hc : X.calm = true) (hN : X.N.Nodup) (hi : WI X tg iter ti) (ok : BlkOk X.N X.env.scope scope own) (hv : ∀ i ∈ ws, i ∈ own.map (·.2))
    (hg : ∀ (s : Shared) (H : Hp) (C : Addr) (cl : List (Str × Addr)) (fp : List Addr), WG (X.blk s H scope (compEnvC scope cl C X.env) fp) tg ws g) (ht : ∀ (s : Shared) (H : Hp) (C : Addr) (cl : List (Str × Addr)) (fp : List Addr), WTs (X.blk s H scope (compEnvC scope cl C X.env) fp) ifs tt)
    (he : ∀ (s : Shared) (H : Hp) (C : Addr) (cl : List (Str × Addr)) (fp : List Addr), WE (X.blk s H scope (compEnvC scope cl C X.env) fp) elt te) (hs : ∀ x, foldedSetIterable iter X.env x = pure x := by intro _; rfl) :
    WN X (.ListComp elt [⟨tg, iter, ifs, 0⟩] scope pos) (tLC ti g tt te (sndsR own)) := by
  rw [sndsR_eq]
  refine ⟨fun c => ?_⟩
  obtain ⟨wi, hpi, hw⟩ := hi.ex c
  exact pe_w (pe_lc (wi := wi) (g := upGE X.K ws g) (tt := upTE X.K tt) (te := upE X.K te) hc hN hpi ok (fun s H C cl fp => PG.anyF (hg s H C cl fp)) (fun s H C cl fp => PTs.anyF (ht s H C cl fp)) (fun s H C cl fp => PE.anyF (he s H C cl fp)) hs) fun σ H Q h => lc_up (tg := tg) (iter := iter) hw hv h
/-- name = [..] on one line -/
theorem ws_setLC {i : Nat} {y : Str} {py spos : Pos} {elt tg iter : Expr} {ifs : List Expr} {scope : Scope} {own : List (Str × Nat)} {ti : TIp} {ws : List Nat} {g : TGp} {tt : TTp} {te : TEp} (hc : X.calm = true) (hN : X.N.Nodup) (hy : X.N[i]? = some y) (hyl : X.env.scope.names.lookup y = some .local)
    (hsw : swapsWith (.ListComp elt [⟨tg, iter, ifs, 0⟩] scope pos) (some (.Name y py)) spos.line X.env = pure true) (hi : WI X tg iter ti) (ok : BlkOk X.N X.env.scope scope own) (hv : ∀ i ∈ ws, i ∈ own.map (·.2))
    (hg : ∀ (s : Shared) (H : Hp) (C : Addr) (cl : List (Str × Addr)) (fp : List Addr), WG (X.blk s H scope (compEnvC scope cl C X.env) fp) tg ws g) (ht : ∀ (s : Shared) (H : Hp) (C : Addr) (cl : List (Str × Addr)) (fp : List Addr), WTs (X.blk s H scope (compEnvC scope cl C X.env) fp) ifs tt)
    (he : ∀ (s : Shared) (H : Hp) (C : Addr) (cl : List (Str × Addr)) (fp : List Addr), WE (X.blk s H scope (compEnvC scope cl C X.env) fp) elt te) (hs : ∀ x, foldedSetIterable iter X.env x = pure x := by intro _; rfl) :
    WS X (.Assign [.Name y py] (.ListComp elt [⟨tg, iter, ifs, 0⟩] scope pos) spos) (tStN i (tLC ti g tt te (sndsR own))) := by
  rw [sndsR_eq]
  refine ⟨fun c => ?_⟩
  obtain ⟨wi, hpi, hw⟩ := hi.ex c
  exact ps_w (ps_setLc (wi := wi) (g := upGE X.K ws g) (tt := upTE X.K tt) (te := upE X.K te) hc hN hy hyl hsw hpi ok (fun s H C cl fp => PG.anyF (hg s H C cl fp)) (fun s H C cl fp => PTs.anyF (ht s H C cl fp)) (fun s H C cl fp => PE.anyF (he s H C cl fp)) hs) fun D σ H ⟨μ, ρ, S, E, f, h, q⟩ => lc_up (tg := tg) (iter := iter) hw hv (stN_up f h q)
end
end Pu

set_option autoImplicit false
namespace Pu
open PySem PySem.Spec PyProof.Rows L2

/-! ### the law itself: called once, by the claim's caller -/
/-- nothing but the script, locked, is tracked (or nothing) -/
def Lone (a : Addr) (ob : Obj) (xs : List V) (H : Hp) : Prop := ∀ b u, H b = some u → b = a ∧ u = .frz ob (.lst xs)
def LawOk (P : Program) (w : World) (K : PySem.W.Frag) (mg : Str → Option Value) (base : Heap) (f : Addr) (fd : FuncData) : Prop :=
  ∀ (s : Shared) (H : Hp) (a : Addr) (ns : List Int), ns.length ≤ 63 → Env0 P w K mg base callerA [] s H → BindsTo s fd ⟨[.ref a], []⟩ [("script", .ref a)] → SqF K H a (ns.map V.int) →
    codeAny (model P w) callerA (.call (.ref f) ⟨[.ref a], []⟩) (CR CX0 [] P w H s (fun v _ => v = .bl true) E0) s
section
variable {P : Program} {w : World} {K : PySem.W.Frag} {mg : Str → Option Value} {base : Heap}
/-- the body of the law keeps it -/
theorem okLaw {st : Stmt} {f : Addr} {fd : FuncData} {N : List Str} {k n : Nat} {t : TSp} (F : Fun K "law" "law" st f fd) (Sc : FnScope N ["script"] (defScope st)) (hn : N.length = n) (room : Room (k + 1) callerA)
    (hw : ∀ (cdv : Value) (s : Shared) (H : Hp), Room k (callerA.deeper (envOfC "law" (defScope st) s.heap.objs.size f cdv)) → (callerA.deeper (envOfC "law" (defScope st) s.heap.objs.size f cdv)).guards = some [] →
      WSs (cxOf CX0 P w K mg base N "law" (defScope st) f cdv callerA [] s H E0).nox (defBody st) t)
    (hb : ∀ ns : List Int, ns.length ≤ 63 → t { nx := fun _ _ => False, rt := fun pv _ => pv = .d (.bool true) } (startP n [.d (.list (ns.map PyData.int))]) []) : LawOk P w K mg base f fd := by
  intro s H a ns hlen ev bind hS
  obtain ⟨oc, od, kV, doc, pm, an, cdv, ct, osl, rfl, lk, hcd⟩ := F.ex
  have inK : K.In s.heap := ev.mod.kin.keeps fun b o e => (ev.bs b o e).1
  have lim : s.heap.NoLimit := ev.mod.nolimit.keeps fun b o e => (ev.bs b o e).1
  have one : ∀ y ∈ (["script"] : List Str).zip [Value.ref a], (defScope st).names.lookup y.1 = some .local ∨ ((defScope st).names.lookup y.1 = some .cell ∧ ((cellsFrom (s.heap.objs.size + 1) (defScope st).names []).lookup y.1).isSome = true) := by
    rintro ⟨x, v⟩ hy
    exact (Sc.par x (List.of_mem_zip hy).1).imp id fun q => ⟨q, PySem.W.cellsFrom_some _ _ _ (.inl q)⟩
  refine codeAny_call_function room.depth (inK _ _ lk) rfl Sc.co Sc.gen rfl (PySem.W.codeRec_of inK hcd) (bind _ _ _ _ ?_)
  refine wpAny_newFunctionEnv_cells Sc.kind one fun env he s1 x => ?_
  subst he
  refine ⟨lim.keeps x.toInCall.keep, codeAny_func ?_⟩
  have body := PSs.nox ((hw cdv s H (room.deeper _) rfl).ps ⟨H, fun _ => False⟩)
  have I : Inv (cxOf CX0 P w K mg base N "law" (defScope st) f cdv callerA [] s H E0) [] (L2.start N [V.ref a]) H s1 := inv_start Sc room.hd ev rfl (.cons rfl .nil) x
  have rs : Rep K H (.list (ns.map PyData.int)) (.ref a) := ⟨a, _, rfl, hS, Reps.of_ints⟩
  have fr : Fr K ⟨H, fun _ => False⟩ [] (startP n [.d (.list (ns.map PyData.int))]) [] (L2.start N [V.ref a]) H := by
    refine ⟨?_, .nil, .nil, fun b hb => absurd hb (by simp), fun b o e _ => e⟩
    have z := start_slots (K := K) (H := H) (μ := []) (args := [.d (.list (ns.map PyData.int))]) (vs := [V.ref a]) (.cons rs .nil) (n - 1)
    have hle : 1 ≤ n := by
      rw [← hn]
      have := congrArg List.length Sc.pre
      rw [List.length_take] at this
      have e : (["script"] : List Str).length = 1 := rfl
      omega
    rw [startP_eq n [.d (.list (ns.map PyData.int))] hle]
    unfold L2.start
    rw [hn]
    exact z
  refine wpAny_mono (body.run [] s1 _ H { nx := fun _ _ => False, rt := fun v _ => v = .bl true } I ⟨[], _, [], _, fr, hb ns hlen, ?_⟩) (fun fl s' hs => ?_) fun e s' hs => hs
  · exact ⟨fun _ _ z => z.elim, fun pv S' z _ _ _ v _ _ _ rp _ => by subst z; exact rp, fun _ _ z => z.elim, fun _ _ z => z.elim⟩
  · cases fl with
    | ret u =>
      obtain ⟨v, σ', H', J, rv, q⟩ := hs
      exact ⟨v, H', J.os, J.bare, J.base, J.hok, rv, q⟩
    | next => obtain ⟨_, _, _, q⟩ := hs; exact False.elim q
    | brk => obtain ⟨_, _, _, q⟩ := hs; exact False.elim q
    | cont => obtain ⟨_, _, _, q⟩ := hs; exact False.elim q
/-- from the law's promise to its run behind the top -/
theorem law_run {mb : Str → Option Value} {fa a : Addr} {fd : FuncData} {s : Shared} {vs : List Value} {ns : List Int} (inK : K.In s.heap) (hns : s.heap.Ns mainGlobals mg) (hbn : s.heap.Ns builtinsNs mb)
    (hbb : ∀ x : Str, x ≠ "__name__" → mb x = bootBuiltins x) (hlim : s.heap.NoLimit) (hg : s.gens = #[]) (ha : s.heap.get? a = some { cls := .type "list", data := .seq vs.toArray }) (hi : IntsAre vs ns) (hl : ns.length ≤ 63)
    (F : ∀ base : Heap, K.In base → base.Ns mainGlobals mg → LawOk P w K mg base fa fd) (hbind : ∀ (s : Shared) (u : Value), BindsTo s fd ⟨[u], []⟩ [("script", u)]) :
    codeAny (model P w) callerA (.call (.ref fa) ⟨[.ref a], []⟩) (fun r s' => r = .ok (.ret (.bool true)) ∧ OldK s.heap s'.heap ∧ s'.os = s.os ∧ AllBare s'.gens) s := by
  have rv : Vals (ns.map V.int) vs := vals_of_ints hi
  have lv : vs.length = ns.length := by have := rv.length; simpa using this.symm
  have lz : ns.length ≤ sizeLine := Nat.le_trans hl (by decide)
  -- the claim, from a way to track the script
  have main : ∀ H : Hp, Lone a { cls := .type "list", data := .seq vs.toArray } (ns.map V.int) H → (H a ≠ none → K.lookup a = none) → SqF K H a (ns.map V.int) →
      codeAny (model P w) callerA (.call (.ref fa) ⟨[.ref a], []⟩) (fun r s' => r = .ok (.ret (.bool true)) ∧ OldK s.heap s'.heap ∧ s'.os = s.os ∧ AllBare s'.gens) s := by
    intro H lone hka hS
    have hok : HOk P w H s.heap := fun b u e => by
      obtain ⟨rfl, rfl⟩ := lone b u e
      exact ⟨ha, by rw [List.length_map]; exact lz, vs, _, rv, ha⟩
    have free : ∀ {b : Addr}, (H b ≠ none → False) → H b = none := fun {b} z => by
      cases q : H b with
      | none => rfl
      | some u => exact (z (by rw [q]; simp)).elim
    have kH : K.In (hidT s.heap H) := fun b o e => by
      refine hidT_get (inK b o e) (free fun z => ?_)
      obtain ⟨u, hu⟩ := Option.ne_none_iff_exists'.mp z
      obtain ⟨rfl, _⟩ := lone b u hu
      rw [hka z] at e; cases e
    have nsH : ∀ {b : Addr} {m : Str → Option Value}, s.heap.Ns b m → (hidT s.heap H).Ns b m := fun {b m} q => by
      obtain ⟨o, es, ep, e, d, r⟩ := q
      refine ⟨o, es, ep, hidT_get e (free fun z => ?_), d, r⟩
      obtain ⟨u, hu⟩ := Option.ne_none_iff_exists'.mp z
      obtain ⟨rfl, _⟩ := lone b u hu
      rw [ha] at e; cases e; cases d
    have md : Mod K mg (hidT s.heap H) := by
      obtain ⟨mc, h1, h2⟩ := hlim
      exact ⟨kH, nsH hns, ⟨mb, nsH hbn, hbb⟩, ⟨mc, nsH h1, h2⟩⟩
    have ev : Env0 P w K mg (hidT s.heap H) callerA [] s H := ⟨rfl, md, fun b o e => of_hidT e, Nat.le_of_eq (hidT_size _ _), trivial, fun b hb => absurd (show b ∈ ([] : List Addr) from hb) (by simp), hok, .of_eq hg⟩
    refine codeAny_mono (F _ kH (nsH hns) s H a ns hl ev (hbind s (.ref a)) hS) fun r s' h => ?_
    match r, h with
    | .error e, h => exact False.elim h
    | .ok .next, h => exact False.elim h
    | .ok .brk, h => exact False.elim h
    | .ok .cont, h => exact False.elim h
    | .ok (.ret u), h =>
      obtain ⟨v, H', os, bare, un, hok', r', q⟩ := h
      have q' : v = .bl true := q
      subst q'
      obtain rfl : u = Value.bool true := r'
      refine ⟨rfl, OldK.of_keep fun b o e => ?_, os, bare⟩
      cases hb : H b with
      | none => exact un.keep b o e hb (by intro z; exact absurd (show b ∈ ([] : List Addr) from z) (by simp)) (by simp)
      | some u =>
        obtain ⟨rfl, rfl⟩ := lone b u hb
        have l2 := un.frzs b _ _ hb
        obtain ⟨e2, _⟩ := hok' b _ l2
        rw [ha] at e; cases e
        exact e2
  cases hk : K.lookup a with
  | some o =>
    have e := inK a o hk
    rw [ha] at e; cases e
    exact main (fun _ => none) (fun b u e => by have e' : (none : Option HO) = some u := e; cases e') (fun z => absurd rfl z) (.inr ⟨vs, _, hk, by rw [lv]; exact lz, rv⟩)
  | none =>
    refine main (fun b => if b = a then some (.frz { cls := .type "list", data := .seq vs.toArray } (.lst (ns.map V.int))) else none) (fun b u e => ?_) (fun _ => hk) (.inl ⟨_, if_pos rfl⟩)
    by_cases hb : b = a
    · exact ⟨hb, by have e' := (if_pos hb).symm.trans e; cases e'; rfl⟩
    · have e' := (if_neg hb).symm.trans e
      cases e'
theorem walk_law {l : PySem.W.OpenLaw} {n : Nat} {q : Program} {loose : List Str} {XP : (Str → Option Value) → Heap → Prop} {YP : World → Heap → Prop} {d : DefRec} {K : Params → PySem.W.Frag}
    (hn : l.most = some n) (hn2 : n ≤ 63) (hdf : d.params.defaults = []) (hY : ∀ (w : World) (h : Heap), YP w h → (K w.params).In h)
    (F : ∀ (w : World) (mg : Str → Option Value) (fa : Addr) (h : Heap), (K w.params).In h → h.Ns mainGlobals mg → mg d.name = some (.ref fa) →
      ∃ fd : FuncData, (∀ (s : Shared) (u : Value), BindsTo s fd ⟨[u], []⟩ [("script", u)]) ∧ ∀ base : Heap, (K w.params).In base → base.Ns mainGlobals mg → LawOk l.prog w (K w.params) mg base fa fd) :
    PySem.W.WalkO q loose XP YP l.row.toRowW d [] (fun f vs => PySem.call f vs) := by
  refine Att.attach_call hn hdf fun w s0 s1 mg mb fa o pm cd doc a vs ns G Y ho hd hcd hmg hobj hints hlen hg => ?_
  have inK := hY w _ Y
  obtain ⟨fd, hb, hF⟩ := F w mg fa _ inK G.T.g hmg
  exact law_run inK G.T.g G.T.b G.T.builtins G.T.nolimit hg hobj hints (Nat.le_trans hlen hn2) hF hb
end
end Pu

set_option autoImplicit false
namespace Pu
open PySem PySem.Spec PyProof.Rows L2

/-! ### a new list is locked where it is stored -/
theorem Fr.lockNew {K : PySem.W.Frag} {c : FP} {μ : List Addr} {ρ : Rho} {S : Sto} {σ : L2.St} {H : Hp} {p : Addr} {vs : List V} (f : Fr K c μ ρ S σ H) (hp : H p = some (.lst vs)) (np : p ∉ μ) (no : c.F0 p ∨ c.H0 p = none) (o : Obj) :
    Fr K c μ ρ S σ (upd H p (.frz o (.lst vs))) ∧ Ge H (upd H p (.frz o (.lst vs))) := by
  have g : Ge H (upd H p (.frz o (.lst vs))) := .put hp
  refine ⟨⟨paired_imp f.env fun _ _ z => SlotR.mono g (.refl _) z, paired_at f.cel fun i y a e1 e2 z => ?_, f.nd, f.own, fun b ob e nb => ?_⟩, g⟩
  · have na : a ≠ p := fun h => np (h ▸ List.mem_of_getElem? e2)
    exact z.move (fun o e => by rw [upd_ne na]; exact e) g
  · have nb' : b ≠ p := fun h => by
      subst h
      rcases no with z | z
      · exact nb z
      · rw [z] at e; cases e
    rw [upd_ne nb']; exact f.keep b ob e nb
section
variable {X : Cx} {K : PySem.W.Frag} {a b e : Expr} {ta tb te : TEp} {pos : Pos} {k n : Nat} {x : Str} {p : Pos} {es : List Expr} {t : TAp}
theorem ps_lock {st : Stmt} {t : TS} (h : PS X st t) : PS X st (fun D σ H => t { D with nx := fun σ' H' => D.nx σ' H' ∨ ∃ a vs, H' a = some (.lst vs) ∧ ∀ o, D.nx σ' (upd H' a (.frz o (.lst vs))) } σ H) := by
  refine ⟨fun pins s σ H D I q => thn (h.run pins s σ H _ I q) fun fl s1 z => ?_⟩
  cases fl with
  | next =>
    obtain ⟨σ', H', I', z⟩ := z
    rcases z with z | ⟨a, vs, ha, z⟩
    · exact ⟨σ', H', I', z⟩
    · obtain ⟨o, I2⟩ := Inv.lock I' ha
      exact ⟨σ', _, I2, z o⟩
  | ret v => exact z
  | brk => exact z
  | cont => exact z
@[reducible] def tStF (i : Nat) (te : TNp) : TSp := fun E ρ S => te ρ S fun xs S1 => E.nx (setR ρ i (some (.d (.list xs)))) S1
theorem stF_up {i : Nat} {c : FP} {μ : List Addr} {ρ : Rho} {S : Sto} {E : EndsP} {σ : L2.St} {H : Hp} {D : Ends} {te : TNp} (f : Fr X.K c μ ρ S σ H) (h : tStF i te E ρ S) (q : RetS X.K c E μ H D) :
    upN X.K c te σ H (fun v H1 => D.nx (σ.set i (some v)) H1 ∨ ∃ a vs, H1 a = some (.lst vs) ∧ ∀ o, D.nx (σ.set i (some v)) (upd H1 a (.frz o (.lst vs)))) := by
  refine ⟨μ, ρ, S, _, f, h, fun xs S1 h1 μ1 p vs H1 p1 f1 hp np no rr g1 => .inr ⟨p, vs, hp, fun o => ?_⟩⟩
  obtain ⟨f2, g2⟩ := f1.lockNew hp np no o
  exact q.nx _ S1 h1 μ1 _ _ p1 (f2.set (x := .d (.list xs)) ⟨p, vs, rfl, .inl ⟨o, upd_same⟩, Reps.mono g2 _ _ rr⟩) (g1.trans g2)
theorem ws_setLCf {i : Nat} {y : Str} {py spos : Pos} {elt tg iter : Expr} {ifs : List Expr} {scope : Scope} {own : List (Str × Nat)} {ti : TIp} {ws : List Nat} {g : TGp} {tt : TTp} {te : TEp} (hc : X.calm = true) (hN : X.N.Nodup) (hy : X.N[i]? = some y) (hyl : X.env.scope.names.lookup y = some .local)
    (hsw : swapsWith (.ListComp elt [⟨tg, iter, ifs, 0⟩] scope pos) (some (.Name y py)) spos.line X.env = pure true) (hi : WI X tg iter ti) (ok : BlkOk X.N X.env.scope scope own) (hv : ∀ i ∈ ws, i ∈ own.map (·.2))
    (hg : ∀ (s : Shared) (H : Hp) (C : Addr) (cl : List (Str × Addr)) (fp : List Addr), WG (X.blk s H scope (compEnvC scope cl C X.env) fp) tg ws g) (ht : ∀ (s : Shared) (H : Hp) (C : Addr) (cl : List (Str × Addr)) (fp : List Addr), WTs (X.blk s H scope (compEnvC scope cl C X.env) fp) ifs tt)
    (he : ∀ (s : Shared) (H : Hp) (C : Addr) (cl : List (Str × Addr)) (fp : List Addr), WE (X.blk s H scope (compEnvC scope cl C X.env) fp) elt te) (hs : ∀ x, foldedSetIterable iter X.env x = pure x := by intro _; rfl) :
    WS X (.Assign [.Name y py] (.ListComp elt [⟨tg, iter, ifs, 0⟩] scope pos) spos) (tStF i (tLC ti g tt te (sndsR own))) := by
  rw [sndsR_eq]
  refine ⟨fun c => ?_⟩
  obtain ⟨wi, hpi, hw⟩ := hi.ex c
  exact ps_w (ps_lock (ps_setLc (wi := wi) (g := upGE X.K ws g) (tt := upTE X.K tt) (te := upE X.K te) hc hN hy hyl hsw hpi ok (fun s H C cl fp => PG.anyF (hg s H C cl fp)) (fun s H C cl fp => PTs.anyF (ht s H C cl fp)) (fun s H C cl fp => PE.anyF (he s H C cl fp)) hs)) fun D σ H ⟨μ, ρ, S, E, f, h, q⟩ => lc_up (tg := tg) (iter := iter) hw hv (stF_up f h q)

/-! ### augmented assignments -/
abbrev R2n (r : R2) : Prop := ∀ x y H Q Q', (∀ v H1, (∀ a, v ≠ .ref a) → Q v H1 → Q' v H1) → r x y H Q → r x y H Q'
theorem n_I0 {g : Int → Int → Int} : R2n (rI0 fun i j => .int (g i j)) := fun _ _ _ _ _ h ⟨i, j, a, b, q⟩ => ⟨i, j, a, b, h _ _ (fun _ z => nomatch z) q⟩
theorem n_I {C : Int → Int → Prop} {g : Int → Int → Int} : R2n (rI C fun i j => .int (g i j)) := fun _ _ _ _ _ h ⟨i, j, a, b, c, q⟩ => ⟨i, j, a, b, c, h _ _ (fun _ z => nomatch z) q⟩
theorem iop_mulW : OpR X (inplaceOp .Mult) (rI CMulW fun i j => .int (i * j)) := opI fun _ _ _ _ _ _ _ hc q => imul_int q hc.ok
abbrev dAddI : OpD := dI0 fun i j => .int (i + j)
theorem ws_augAdd {i : Nat} {x : Str} {pos' : Pos} (hN : X.N.Nodup) (hi : X.N[i]? = some x) (hx : Loc X.env.scope x) (he : WE X e te) (hf : X.fn x = true ∨ X.env.scope.names.lookup x = some .local := by first | exact .inl rfl | exact .inr rfl | assumption) : WS X (.AugAssign (.Name x pos') .Add e pos) (tAu i dAddI te) :=
  ws_aug hN hi hx he iop_add (ok_I0 fun _ _ _ => rfl) n_I0 hf
theorem ws_augSub {i : Nat} {x : Str} {pos' : Pos} (hN : X.N.Nodup) (hi : X.N[i]? = some x) (hx : Loc X.env.scope x) (he : WE X e te) (hf : X.fn x = true ∨ X.env.scope.names.lookup x = some .local := by first | exact .inl rfl | exact .inr rfl | assumption) : WS X (.AugAssign (.Name x pos') .Sub e pos) (tAu i dSub te) :=
  ws_aug hN hi hx he iop_sub (ok_I0 fun _ _ _ => rfl) n_I0 hf
theorem ws_augMul {i : Nat} {x : Str} {pos' : Pos} (hN : X.N.Nodup) (hi : X.N[i]? = some x) (hx : Loc X.env.scope x) (he : WE X e te) (hf : X.fn x = true ∨ X.env.scope.names.lookup x = some .local := by first | exact .inl rfl | exact .inr rfl | assumption) : WS X (.AugAssign (.Name x pos') .Mult e pos) (tAu i dMul te) :=
  ws_aug hN hi hx he iop_mulW (ok_II (C := CMulW) (g := fun i j => .int (i * j)) fun _ _ _ => rfl) n_I hf
theorem ws_augMod {i : Nat} {x : Str} {pos' : Pos} (hN : X.N.Nodup) (hi : X.N[i]? = some x) (hx : Loc X.env.scope x) (he : WE X e te) (hf : X.fn x = true ∨ X.env.scope.names.lookup x = some .local := by first | exact .inl rfl | exact .inr rfl | assumption) : WS X (.AugAssign (.Name x pos') .Mod e pos) (tAu i dMod te) :=
  ws_aug hN hi hx he iop_mod (ok_II (C := fun _ j => 0 < j) (g := fun i j => .int (i % j)) fun _ _ _ => rfl) n_I hf

/-! ### new lists by +, list * int -/
@[reducible] def tCatN (ta tb : TEp) : TNp := fun ρ S R => ta ρ S fun x S1 => tb ρ S1 fun y S2 => match vw S2 x, vw S2 y with
  | some (.list xs), some (.list ys) => xs.length + ys.length ≤ sizeLine ∧ R (xs ++ ys) S2
  | _, _ => False
theorem wn_cat (ha : WE X a ta) (hb : WE X b tb) : WN X (.BinOp a .Add b pos) (tCatN ta tb) := by
  refine ⟨fun c => pe_w (pe_op op_catL (ha.pe c) (hb.pe c)) fun σ H Q ⟨μ, ρ, S, R, f, h, q⟩ => ?_⟩
  refine ⟨μ, ρ, S, _, f, h, fun x S1 h1 μ1 v1 H1 p1 f1 r1 g1 => ⟨μ1, ρ, S1, _, f1, h1, fun y S2 h2 μ2 v2 H2 p2 f2 r2 g2 => ?_⟩⟩
  split at h2
  · rename_i xs ys e1 e2
    obtain ⟨l, us, rfl, s1, rr1⟩ := vw_rep f2 (r1.mono g2 p2) e1
    obtain ⟨l2, ws, rfl, s2, rr2⟩ := vw_rep f2 r2 e2
    refine ⟨l, l2, us, ws, rfl, rfl, s1, s2, by rw [← rr1.length, ← rr2.length]; exact h2.1, fun p hp => ?_⟩
    exact q _ S2 h2.2 μ2 p _ _ (p1.trans p2) (f2.same (same_new hp)) upd_same (f2.notIn hp) (f2.noH0 hp) (Reps.mono (.new hp) _ _ (rr1.append rr2)) (g1.trans (g2.trans (.new hp)))
  · exact h2.elim
theorem Reps.rep {K : PySem.W.Frag} {H : Hp} {ds : List PyData} {vs : List V} (r : Reps K H ds vs) : ∀ k : Nat, Reps K H (List.replicate k ds).flatten (List.replicate k vs).flatten
  | 0 => rfl
  | k + 1 => by rw [List.replicate_succ, List.replicate_succ, List.flatten_cons, List.flatten_cons]; exact r.append (Reps.rep r k)
/-- a new list times an int -/
@[reducible] def tRepN (ta : TNp) (tb : TEp) : TNp := fun ρ S R => ta ρ S fun xs S1 => tb ρ S1 fun y S2 => match y with
  | .d (.int k) => (-(2 ^ 63) ≤ k ∧ k < 2 ^ 63 ∧ xs.length * k.toNat ≤ sizeLine) ∧ R (List.replicate k.toNat xs).flatten S2
  | _ => False
theorem wn_rep {ta : TNp} (ha : WN X a ta) (hb : WE X b tb) : WN X (.BinOp a .Mult b pos) (tRepN ta tb) := by
  refine ⟨fun c => pe_w (pe_op op_rep (ha.pe c) (PE.anyF hb)) fun σ H Q ⟨μ, ρ, S, R, f, h, q⟩ => ?_⟩
  refine ⟨μ, ρ, S, _, f, h, fun xs S1 h1 μ1 p vs H1 p1 f1 hp np no rr g1 => ⟨_, μ1, ρ, S1, _, f1.sub, h1, fun y S2 h2 μ2 v2 H2 p2 f2 r2 g2 => ?_⟩⟩
  split at h2
  · rename_i k
    obtain ⟨⟨b1, b2, b3⟩, h2⟩ := h2
    have r2' : v2 = V.int k := r2
    refine ⟨p, k, vs, rfl, r2', f2.keep p _ hp np, b1, b2, by rw [← rr.length]; exact b3, fun p' hp' => ?_⟩
    have f3 := f1.back f2
    exact q _ S2 h2 μ2 p' _ _ (p1.trans p2) (f3.same (same_new hp')) upd_same (f3.notIn hp') (f3.noH0 hp') (Reps.mono (.new hp') _ _ ((Reps.mono g2 _ _ rr).rep k.toNat)) (g1.trans (g2.trans (.new hp')))
  · exact h2.elim

/-! ### repr -/
theorem repr_any {pins : List (Addr × Obj)} {σ : L2.St} {H : Hp} {s : Shared} {Q : VK} {d : PyData} {u : Value} {as : List Addr} (I : Inv X pins σ H s) (r : Reads s.heap u d as) (hs : d.showable = true) (hd : d.hasDict = false) (hg : X.A.guards = some []) (hu : X.A.units + (d.depth + 1) < cLine)
    (hsz : d.shown.length ≤ sizeLine) (ht : ∃ a, u = .ref a) (q : Q (.str d.shown) H) : wpAny (model X.prog X.w) X.A (PySem.call (.builtin "repr") [u]) (EP X pins σ Q) X.xe s := by
  obtain ⟨a, rfl⟩ := ht
  exact repr_of_reads' r hs (fun z => by rw [hd] at z; cases z) hg hu (fun _ _ h => h) (fun h' u tk keep => ⟨.str d.shown, H, I.kept (t' := tk) keep, ⟨_, rfl⟩, q⟩) hsz
def rRepr (K : PySem.W.Frag) : List V → Hp → VK → Prop := fun xs H Q => ∃ a d, xs = [.ref a] ∧ Dp K H (.ref a) d ∧ d.showable = true ∧ d.hasDict = false ∧ d.depth ≤ 60 ∧ d.shown.length ≤ sizeLine ∧ Q (.str d.shown) H
theorem call_reprD (hg : X.A.guards = some []) (hr : Room k X.A) : CallR X (.builtin "repr") (rRepr X.K) := by
  intro pins s σ H xs us Q I r h
  obtain ⟨a, d, rfl, hd, h1, h2, h3, h4, q⟩ := h
  obtain ⟨u, rfl, ru⟩ := vals1 r
  obtain ⟨as, rd⟩ := Dp.reads I d _ _ hd ru
  have hun := hr.units
  exact repr_any I rd h1 h2 hg (by omega) h4 ⟨a, ru⟩ q
end
/-! a bound of a text's length -/
mutual
def bndD : PyData → Nat
  | .int _ => 2000
  | .none => 4
  | .bool _ => 5
  | .list xs => bndsD xs + 2
  | .tuple xs => bndsD xs + 3
  | .str z => (reprText z).length
  | _ => 20000000
def bndsD : List PyData → Nat
  | [] => 0
  | x :: xs => bndD x + 2 + bndsD xs
end
mutual
def RpOk : PyData → Prop
  | .int i => i.natAbs.log2 < 1920
  | .none => True
  | .bool _ => True
  | .list xs => RpsOk xs
  | .tuple xs => RpsOk xs
  | .str _ => True
  | _ => False
def RpsOk : List PyData → Prop
  | [] => True
  | x :: xs => RpOk x ∧ RpsOk xs
end
mutual
theorem noD_rp : ∀ {d : PyData}, RpOk d → noD d = true
  | .none, _ => rfl
  | .bool _, _ => rfl
  | .int _, _ => rfl
  | .str _, _ => rfl
  | .list xs, h => noDs_rp (xs := xs) h
  | .tuple xs, h => noDs_rp (xs := xs) h
  | .dict _, h => h.elim
theorem noDs_rp : ∀ {xs : List PyData}, RpsOk xs → noDs xs = true
  | [], _ => rfl
  | x :: xs, h => by
    simp only [noDs, Bool.and_eq_true]
    exact ⟨noD_rp h.1, noDs_rp h.2⟩
end
theorem textFrom_le : ∀ (ts : List Str) (k : Nat) (acc : Str), (textFrom k acc ts).length ≤ acc.length + piled ts
  | [], _, acc => by rw [piled_nil]; exact Nat.le_refl _
  | t :: r, k, acc => by
    have h := textFrom_le r (k + 1) (acc ++ (if k > 0 then ", " else "" : String) ++ t)
    have e : (acc ++ (if k > 0 then ", " else "" : String) ++ t).length ≤ acc.length + 2 + t.length := by
      rw [strLen_append, strLen_append]
      split
      · exact Nat.le_refl _
      · show acc.length + 0 + t.length ≤ _; omega
    rw [piled_cons]
    show (textFrom (k + 1) (acc ++ (if k > 0 then ", " else "" : String) ++ t) r).length ≤ _
    omega
theorem tupleText_le (ts : List Str) : (tupleText ts).length ≤ piled ts + 3 := by
  unfold tupleText
  rw [strLen_append, strLen_append]
  have e1 : (("(" : Str)).length = 1 := rfl
  have e2 : (Str.ofString (if (ts.length == 1) = true then ",)" else ")")).length ≤ 2 := by split <;> decide
  cases ts with
  | nil => rw [piled_nil]; decide
  | cons t r =>
    have := join_length_add (t :: r) (by simp)
    have e3 : ((if ((t :: r).length == 1) = true then ",)" else ")" : String) : Str).length ≤ 2 := by split <;> decide
    omega
mutual
theorem shown_le : ∀ d : PyData, RpOk d → d.shown.length ≤ bndD d ∧ d.showable = true ∧ d.hasDict = false
  | .int i, h => by
    have h' : i.natAbs.log2 < 1920 := h
    have := int_text_length_le (by omega) h'
    refine ⟨?_, by simp only [PyData.showable, h', decide_true], by simp only [PyData.hasDict]⟩
    simp only [PyData.shown, bndD]
    have e : (Str.ofString (toString i)).length = (toString i).length := PySem.ofString_length _
    omega
  | .none, _ => by simp only [PyData.shown, bndD, PyData.showable, PyData.hasDict, and_true]; decide
  | .bool b, _ => by cases b <;> (simp only [PyData.shown, bndD, PyData.showable, PyData.hasDict, and_true]; decide)
  | .list xs, h => by
    obtain ⟨a, b, c⟩ := shownAll_le xs h
    simp only [PyData.shown, bndD, PyData.showable, PyData.hasDict]
    refine ⟨?_, b, c⟩
    unfold listText
    rw [strLen_append]
    have := textFrom_le (PyData.shownAll xs) 0 "["
    have e1 : (("[" : Str)).length = 1 := rfl
    have e2 : (("]" : Str)).length = 1 := rfl
    omega
  | .tuple xs, h => by
    obtain ⟨a, b, c⟩ := shownAll_le xs h
    simp only [PyData.shown, bndD, PyData.showable, PyData.hasDict]
    refine ⟨?_, b, c⟩
    have := tupleText_le (PyData.shownAll xs)
    omega
  | .str z, _ => by
    simp only [PyData.shown, bndD, PyData.showable, PyData.hasDict, and_true]
    exact Nat.le_refl _
  | .dict _, h => h.elim
theorem shownAll_le : ∀ xs : List PyData, RpsOk xs → piled (PyData.shownAll xs) ≤ bndsD xs ∧ PyData.showableAll xs = true ∧ PyData.hasDictAll xs = false
  | [], _ => by simp only [PyData.shownAll, bndsD, PyData.showableAll, PyData.hasDictAll, piled_nil, and_true]; exact Nat.le_refl _
  | x :: xs, h => by
    obtain ⟨h1, h2⟩ := h
    obtain ⟨a, b, c⟩ := shown_le x h1
    obtain ⟨a', b', c'⟩ := shownAll_le xs h2
    simp only [PyData.shownAll, bndsD, PyData.showableAll, PyData.hasDictAll, piled_cons, b, b', c, c', Bool.and_self, Bool.or_self, and_true]
    omega
end
section
variable {X : Cx} {K : PySem.W.Frag}
@[reducible] def aRepr : OpA := fun ds k => match ds with
  | [.list xs] => (RpsOk xs ∧ (PyData.list xs).depth ≤ 60 ∧ bndD (.list xs) ≤ sizeLine) ∧ k (.str (PyData.list xs).shown)
  | [.tuple xs] => (RpsOk xs ∧ (PyData.tuple xs).depth ≤ 60 ∧ bndD (.tuple xs) ≤ sizeLine) ∧ k (.str (PyData.tuple xs).shown)
  | _ => False
theorem ok_repr : OpaOk K (rRepr K) aRepr := by
  intro H ds vs k Q r h q
  unfold aRepr at h
  split at h
  · rename_i xs
    cases r with
    | cons r t =>
      cases t
      obtain ⟨⟨h1, h2, h3⟩, h⟩ := h
      obtain ⟨s1, s2, s3⟩ := shown_le (.list xs) h1
      have dp := dp_ofR (noD_rp (d := .list xs) h1) r
      obtain ⟨l, us, rfl, s, rr⟩ := r
      exact ⟨l, _, rfl, dp, s2, s3, h2, Nat.le_trans s1 h3, q.val _ _ H h rfl (.refl _)⟩
  · rename_i xs
    cases r with
    | cons r t =>
      cases t
      obtain ⟨⟨h1, h2, h3⟩, h⟩ := h
      obtain ⟨s1, s2, s3⟩ := shown_le (.tuple xs) h1
      have dp := dp_ofR (noD_rp (d := .tuple xs) h1) r
      obtain ⟨l, us, rfl, s, rr⟩ := r
      exact ⟨l, _, rfl, dp, s2, s3, h2, Nat.le_trans s1 h3, q.val _ _ H h rfl (.refl _)⟩
  · exact h.elim
end
end Pu

set_option autoImplicit false
namespace Pu
open PySem PySem.Spec PyProof.Rows L2
section
variable {X : Cx} {K : PySem.W.Frag}
theorem call_max3 (hc : X.calm = true) : CallR X (.builtin "max") (fun xs H Q => ∃ i j l, xs = [.int i, .int j, .int l] ∧ Q (.int (if j > i then (if l > j then l else j) else (if l > i then l else i))) H) := by
  intro pins s σ H xs us Q I r h
  obtain ⟨i, j, l, rfl, q⟩ := h
  cases r with
  | cons r1 r =>
    cases r with
    | cons r2 r =>
      obtain ⟨u3, rfl, r3⟩ := vals1 r
      obtain ⟨t1, rfl⟩ := r1
      obtain ⟨t2, rfl⟩ := r2
      obtain ⟨t3, rfl⟩ := r3
      refine max_three_ints (I.ok.hd hc) fun h' tk k => ⟨_, H, I.kept k, ?_, q⟩
      by_cases h1 : j > i
      · rw [if_pos h1, if_pos h1]; split <;> exact ⟨_, rfl⟩
      · rw [if_neg h1, if_neg h1]; split <;> exact ⟨_, rfl⟩
@[reducible] def aMax3 : OpA := fun ds k => match ds with
  | [.int i, .int j, .int l] => k (.int (if j > i then (if l > j then l else j) else (if l > i then l else i)))
  | _ => False
theorem ok_max3 : OpaOk K (fun xs H Q => ∃ i j l, xs = [.int i, .int j, .int l] ∧ Q (.int (if j > i then (if l > j then l else j) else (if l > i then l else i))) H) aMax3 := by
  intro H ds vs k Q r h q
  unfold aMax3 at h
  split at h
  · rename_i i j l
    cases r with
    | cons r t =>
      cases t with
      | cons r' t =>
        cases t with
        | cons r'' t =>
          cases t
          exact ⟨i, j, l, by rw [show _ = V.int i from r, show _ = V.int j from r', show _ = V.int l from r''], q.val _ _ H h rfl (.refl _)⟩
  · exact h.elim
end
section
variable {X : Cx} {a b e : Expr} {ta tb tc : TEp} {pos : Pos}
theorem up_q {K : PySem.W.Frag} {c : FP} {t : TEp} {σ : L2.St} {H : Hp} {Q Q' : VK} (h : up K c t σ H Q) (hq : ∀ v H1, Q v H1 → Q' v H1) : up K c t σ H Q' := by
  obtain ⟨μ, ρ, S, R, f, h, q⟩ := h
  exact ⟨μ, ρ, S, R, f, h, fun pv S' r1 μ' v H' p' f' rp g' => hq _ _ (q pv S' r1 μ' v H' p' f' rp g')⟩
/-- a < b < c as a test -/
theorem wt_chain {op op' : CmpOp} {r r' : R2} {pp pp' : OpD} (hp : OpdOk X.K r pp) (hp' : OpdOk X.K r' pp') (hr : R2m r) (hr' : R2m r') (ha : WE X a ta) (hb : WE X b tb) (hc : WE X e tc)
    (hl : ∀ t1 t2 t3, PE X a t1 → PE X b t2 → PE X e t3 → PT X (.Compare a [op, op'] [b, e] pos) (tTest (tChain r r' t1 t2 t3))) : WT X (.Compare a [op, op'] [b, e] pos) (tTst (tCh pp pp' ta tb tc)) := by
  refine ⟨fun c => pt_w (hl _ _ _ (ha.pe c) (hb.pe c) (hc.pe c)) fun σ H Q ⟨μ, ρ, S, R, f, h, q⟩ => ?_⟩
  have z := chain_up (e := e) hp hp' (tst_up f h q) hr
  have fz : ∀ v H1, Fz (fun x H1 => ∃ k, x = V.bl k ∧ Q k H1) v H1 → ∃ k, v = V.bl k ∧ Q k H1 := fun v H1 z => by
    rcases z with z | ⟨a, vs, rfl, _, z⟩
    · exact z
    · obtain ⟨k, e, _⟩ := z { cls := .none, data := .fields #[] }
      cases e
  exact up_q z fun x H1 z => up_q z fun y H2 z => hr _ _ _ _ _ (fun v H3 ⟨k, e, z⟩ => ⟨k, e, by
    cases k with
    | true => exact iteT (up_q ((if_pos rfl).mp z) fun w H4 z => hr' _ _ _ _ _ (fun v H5 z => fz v H5 z) z)
    | false => exact iteF (fz _ _ ((if_neg Bool.false_ne_true).mp z))⟩) z
end
theorem okLe {K : PySem.W.Frag} : OpdOk K (rI0 fun i j => .bl (decide (i ≤ j))) dLe := ok_I0 fun _ _ _ => rfl
theorem okLt {K : PySem.W.Frag} : OpdOk K (rI0 fun i j => .bl (decide (i < j))) dLt := ok_I0 fun _ _ _ => rfl
/-- the test says not-equal of equal things -/
theorem brNE {p : Prop} [Decidable p] {A B : Prop} (h : p) (hb : B) : Br (bnot (decide p)) A B := brF (by rw [decide_eq_true h]) hb
theorem brNT {p : Prop} [Decidable p] {A B : Prop} (h : ¬ p) (ha : A) : Br (bnot (decide p)) A B := brT (by rw [decide_eq_false h]) ha
end Pu

set_option autoImplicit false
namespace Pu
open PySem PySem.Spec PyProof.Rows L2
section
variable {X : Cx} {K : PySem.W.Frag} {a b e : Expr} {ta tb te : TEp} {pos : Pos} {k n : Nat} {x : Str} {p : Pos} {es : List Expr} {t : TAp}
/-- a new list as a cell of the store -/
@[reducible] def tNw (t : TNp) : TEp := fun ρ S R => t ρ S fun xs S1 => R (.cel (lenS S1)) (snocS S1 (.lst xs))
theorem w_cell {t : TNp} (h : WN X e t) : WE X e (tNw t) := by
  refine ⟨fun c => pe_w (h.pe c) fun σ H Q ⟨μ, ρ, S, R, f, h, q⟩ => ?_⟩
  refine ⟨μ, ρ, S, _, f, h, fun xs S1 h1 μ1 p vs H1 p1 f1 hp np no rr g1 => ?_⟩
  exact q (.cel (lenS S1)) _ h1 (μ1 ++ [p]) (.ref p) H1 (p1.trans ⟨[p], rfl⟩) (f1.newCell hp np no rr) ⟨p, by rw [lenS_eq, paired_len f1.cel]; simp, rfl⟩ g1

/-! ### pop -/
theorem seqIx {j n : Nat} (h : j < n) : PySem.seqIndex? (j : Int) n = some j := by
  have e : (if (j : Int) < 0 then (j : Int) + n else j) = j := if_neg (by omega)
  show (if (0 ≤ (if (j : Int) < 0 then (j : Int) + n else j) && (if (j : Int) < 0 then (j : Int) + n else j) < n) = true then some (Int.toNat (if (j : Int) < 0 then (j : Int) + n else j)) else none) = some j
  rw [e, if_pos (by simp; omega)]; rfl
theorem Reps.eraseIdx {H : Hp} : ∀ {ds : List PyData} {vs : List V}, Reps K H ds vs → ∀ k : Nat, Reps K H (ds.eraseIdx k) (vs.eraseIdx k)
  | [], _, h, k => by rw [show _ = [] from h]; simp; rfl
  | _ :: _, _, ⟨v, vs, e, r, t⟩, 0 => by subst e; simpa using t
  | _ :: _, _, ⟨v, vs, e, r, t⟩, k + 1 => by subst e; exact ⟨v, _, by simp, r, Reps.eraseIdx t k⟩
@[irreducible] def onPop (xs : List PyData) (i : Int) (k : PyData → List PyData → Prop) : Prop := ∃ (j : Nat) (y : PyData), i = (j : Int) ∧ i < 2 ^ 63 ∧ xs[j]? = some y ∧ k y (xs.eraseIdx j)
theorem pop_ok {xs : List PyData} {j : Nat} {y : PyData} {k : PyData → List PyData → Prop} (h : xs[j]? = some y) (hj : (j : Int) < 2 ^ 63) (hk : k y (xs.eraseIdx j)) : onPop xs (j : Int) k := by
  unfold onPop; exact ⟨j, y, rfl, hj, h, hk⟩
@[reducible] def tPopAt (i : Nat) (te : TEp) : TEp := fun ρ S R => match sltAt ρ i with
  | some (.cel j) => match cellAt S j with
    | some (.lst _) => te ρ S fun v S2 => match v with
      | .d (.int n) => match cellAt S2 j with
        | some (.lst xs) => onPop xs n fun y ys => R (.d y) (setS S2 j (.lst ys))
        | _ => False
      | _ => False
    | _ => False
  | _ => False
theorem w_popAt {i : Nat} {o a : Expr} {ta : TEp} {apos cpos : Pos} (ha : WE X a ta) (hp : ∀ t, PE X a t → PE X (.Call (.Attribute o "pop" apos) [a] [] cpos) (tBM X.K "list" rPopAt (tVar i) (tCons t tNil))) :
    WE X (.Call (.Attribute o "pop" apos) [a] [] cpos) (tPopAt i ta) := by
  refine ⟨fun c => pe_w (hp _ (ha.pe c)) fun σ H Q ⟨μ, ρ, S, R, f, h, q⟩ => ?_⟩
  unfold tPopAt at h
  split at h
  · rename_i j e0
    obtain ⟨v1, hv, a, ha, rfl⟩ := f.slot (sltAt_get e0)
    split at h
    · rename_i xs0 e1
      rw [cellAt_get] at e1
      obtain ⟨a', ha', vs, e3, rr⟩ := f.at e1
      rw [ha] at ha'; cases ha'
      refine ⟨_, hv, .inl ⟨rfl, _, .of e3⟩, μ, ρ, S, _, f, h, fun y S2 h2 μ2 v2 H2 p2 f2 r2 g2 => ?_⟩
      split at h2
      · rename_i n
        rw [cellAt_get] at h2
        split at h2
        · rename_i ys e4
          unfold onPop at h2
          obtain ⟨jj, y, rfl, hn, hy, h2⟩ := h2
          obtain ⟨a', ha', ws, e5, rr2⟩ := f2.at e4
          have ha3 := p2.get ha
          rw [ha3] at ha'; cases ha'
          obtain ⟨w, hw, rw'⟩ := rr2.get hy
          obtain ⟨f4, g4⟩ := f2.write (o := .lst (ws.eraseIdx jj)) (y := .lst (ys.eraseIdx jj)) e4 ha3 ⟨_, upd_same, Reps.mono (.put e5) _ _ (rr2.eraseIdx jj)⟩
          have hl : jj < ws.length := (List.getElem?_eq_some_iff.mp hw).1
          refine ⟨a, ws, _, jj, w, rfl, by rw [show v2 = V.int jj from r2], e5, by omega, hn, ?_, hw, ?_⟩
          · exact seqIx hl
          · exact q (.d y) _ h2 μ2 w _ p2 f4 (Rep.mono g4 _ _ rw') (g2.trans g4)
        · exact h2.elim
      · exact h2.elim
    · exact h.elim
  · exact h.elim
/-! ### slices -/
abbrev TOp := Rho → Sto → (Option Int → Sto → Prop) → Prop
def upO (K : PySem.W.Frag) (c : FP) (t : TOp) : TO := fun σ H Q => ∃ μ ρ S R, Fr K c μ ρ S σ H ∧ t ρ S R ∧ ∀ o S', R o S' → ∀ μ' H', Pre μ μ' → Fr K c μ' ρ S' σ H' → Ge H H' → Q o H'
structure WO (X : Cx) (e : Option Expr) (t : TOp) : Prop where
  po : ∀ c, PO X e (upO X.K c t)
@[reducible] def oNone : TOp := fun _ S R => R none S
@[reducible] def oSome (t : TEp) : TOp := fun ρ S R => t ρ S fun x S1 => match x with
  | .d (.int i) => R (some i) S1
  | _ => False
theorem wo_none : WO X none oNone := ⟨fun c => ⟨fun pins s σ H Q I ⟨μ, ρ, S, R, f, h, q⟩ => po_none.run pins s σ H Q I (q _ _ h μ H (.refl _) f (.refl _))⟩⟩
theorem wo_some {t : TEp} (h : WE X e t) : WO X (some e) (oSome t) := by
  refine ⟨fun c => ⟨fun pins s σ H Q I ⟨μ, ρ, S, R, f, hh, q⟩ => (po_some (h.pe c)).run pins s σ H Q I ⟨μ, ρ, S, _, f, hh, fun x S1 h1 μ1 v1 H1 p1 f1 r1 g1 => ?_⟩⟩⟩
  split at h1
  · rename_i i
    exact ⟨i, r1, q _ _ h1 μ1 H1 p1 f1 g1⟩
  · exact h1.elim
def cutL (xs : List PyData) (lo hi : Option Int) : List PyData := (xs.drop (HT.sIx xs.length 0 lo)).take (HT.sIx xs.length xs.length hi - HT.sIx xs.length 0 lo)
theorem Reps.cut {H : Hp} {ds : List PyData} {vs : List V} (r : Reps K H ds vs) (lo hi : Option Int) : Reps K H (cutL ds lo hi) (cutV vs lo hi) := by
  unfold cutL cutV
  rw [r.length]
  exact (r.drop _).take _
@[reducible] def tSlN (te : TEp) (tl th : TOp) : TNp := fun ρ S R => te ρ S fun x S1 => tl ρ S1 fun lo S2 => th ρ S2 fun hi S3 => match vw S3 x with
  | some (.list xs) => R (cutL xs lo hi) S3
  | _ => False
theorem wn_slice {lo hi : Option Expr} {tl th : TOp} {p2 : Pos} (he : WE X e te) (hl : WO X lo tl) (hu : WO X hi th) : WN X (.Subscript e (.Slice lo hi none p2) pos) (tSlN te tl th) := by
  refine ⟨fun c => pe_w (pe_slice sl_list (he.pe c) (hl.po c) (hu.po c)) fun σ H Q ⟨μ, ρ, S, R, f, h, q⟩ => ?_⟩
  refine ⟨μ, ρ, S, _, f, h, fun x S1 h1 μ1 v1 H1 p1 f1 r1 g1 => ⟨μ1, ρ, S1, _, f1, h1, fun lo S2 h2 μ2 H2 p2 f2 g2 => ⟨μ2, ρ, S2, _, f2, h2, fun hi S3 h3 μ3 H3 p3 f3 g3 => ?_⟩⟩⟩
  split at h3
  · rename_i xs e3
    obtain ⟨l, us, rfl, s, rr⟩ := vw_rep f3 (r1.mono (g2.trans g3) (p2.trans p3)) e3
    exact ⟨l, us, rfl, s.seq, fun p hp => q _ S3 h3 μ3 p _ _ (p1.trans (p2.trans p3)) (f3.same (same_new hp)) upd_same (f3.notIn hp) (f3.noH0 hp) (Reps.mono (.new hp) _ _ (rr.cut lo hi)) (g1.trans (g2.trans (g3.trans (.new hp))))⟩
  · exact h3.elim

/-! ### list(xs) -/
@[reducible] def tLof (ta : TEp) : TNp := fun ρ S R => ta ρ S fun x S1 => match vw S1 x with
  | some (.list xs) => R xs S1
  | some (.tuple xs) => R xs S1
  | _ => False
theorem wn_listOf {ce : Expr} (ha : WE X a ta) (hl : ∀ t, PE X a t → PE X ce (tCB (fun xs H Q => ∃ p ys, xs = [V.ref p] ∧ (SqL X.K H p ys ∨ SqT X.K H p ys) ∧ ∀ l, H l = none → Q (.ref l) (upd H l (.lst ys))) (tCons t tNil))) : WN X ce (tLof ta) := by
  refine ⟨fun c => pe_w (hl _ (ha.pe c)) fun σ H Q ⟨μ, ρ, S, R, f, h, q⟩ => ?_⟩
  refine ⟨μ, ρ, S, _, f, h, fun x S1 h1 μ1 v1 H1 p1 f1 r1 g1 => ?_⟩
  split at h1
  · rename_i xs e1
    obtain ⟨l, us, rfl, s, rr⟩ := vw_rep f1 r1 e1
    exact ⟨l, us, rfl, .inl s.seq, fun p hp => q _ S1 h1 μ1 p _ _ p1 (f1.same (same_new hp)) upd_same (f1.notIn hp) (f1.noH0 hp) (Reps.mono (.new hp) _ _ rr) (g1.trans (.new hp))⟩
  · rename_i xs e1
    obtain ⟨l, us, rfl, s, rr⟩ := vw_rep f1 r1 e1
    exact ⟨l, us, rfl, .inr s, fun p hp => q _ S1 h1 μ1 p _ _ p1 (f1.same (same_new hp)) upd_same (f1.notIn hp) (f1.noH0 hp) (Reps.mono (.new hp) _ _ rr) (g1.trans (.new hp))⟩
  · exact h1.elim

/-! ### is, of truth values -/
@[reducible] def dIsB (g : Bool → Bool) : OpD := fun a b k => match a, b with
  | .bool a, .bool b => k (.bool (g (decide (a = b))))
  | _, _ => False
theorem ok_isB : OpdOk K (fun x y H Q => ∃ a b, x = V.bl a ∧ y = V.bl b ∧ Q (.bl (decide (a = b))) H) (dIsB id) := by
  intro H a b va vb k Q ra rb h q
  unfold dIsB at h
  split at h
  · rename_i a b
    exact ⟨a, b, ra, rb, q.val _ _ H h rfl (.refl _)⟩
  · exact h.elim
theorem ok_notB : OpdOk K (fun x y H Q => ∃ a b, x = V.bl a ∧ y = V.bl b ∧ Q (.bl (!decide (a = b))) H) (dIsB bnot) := by
  intro H a b va vb k Q ra rb h q
  unfold dIsB at h
  split at h
  · rename_i a b
    exact ⟨a, b, ra, rb, q.val _ _ H h (by rw [bnot_eq]; rfl) (.refl _)⟩
  · exact h.elim
theorem m_isB {g : Bool → Bool → V} : R2m (fun x y H Q => ∃ a b, x = V.bl a ∧ y = V.bl b ∧ Q (g a b) H) := fun _ _ _ _ _ h ⟨a, b, e, e', q⟩ => ⟨a, b, e, e', h _ _ q⟩
theorem w_isB (ha : WE X a ta) (hb : WE X b tb) : WE X (.Compare a [.Is] [b] pos) (tBin (dIsB id) ta tb) := w_cmp op_is_bl ok_isB ha hb (nomark _)
theorem w_notB (ha : WE X a ta) (hb : WE X b tb) : WE X (.Compare a [.IsNot] [b] pos) (tBin (dIsB bnot) ta tb) := w_cmp op_isnot_bl ok_notB ha hb (nomark _)
theorem wt_isB (ha : WE X a ta) (hb : WE X b tb) : WT X (.Compare a [.Is] [b] pos) (tTst (tBin (dIsB id) ta tb)) := w_tcmp op_is_bl ok_isB (m_isB (g := fun a b => .bl (decide (a = b)))) ha hb (nomark _)
theorem wt_notB (ha : WE X a ta) (hb : WE X b tb) : WT X (.Compare a [.IsNot] [b] pos) (tTst (tBin (dIsB bnot) ta tb)) := w_tcmp op_isnot_bl ok_notB (m_isB (g := fun a b => .bl (!decide (a = b)))) ha hb (nomark _)
/-! ### a, b, .. = a list -/
@[reducible] def gUl (n : Nat) (u : TGsp) : TGp := fun x ρ R => match x with
  | .list xs => LenIs xs n (u xs ρ R)
  | _ => False
theorem wg_list {tgs : List Expr} {k n : Nat} {ws : List Nat} {u : TGsp} (hc : X.calm = true) (h : WGs X tgs ws u) (hn : (assignEach tgs X.env).length = n := by rfl) (hst : (assignEach tgs X.env).findIdx? (·.1) = none := by rfl) :
    WG X (.Tuple tgs k pos) ws (gUl n u) := by
  refine ⟨fun c => pg_w (pg_unl hc (h.pg c) hn hst) fun v σ H Q ⟨μ, ρ, S, x, R, f, r, h, q⟩ => ?_⟩
  cases x with
  | list xs =>
    obtain ⟨a, vs, rfl, s, rr⟩ := r
    obtain ⟨hl, h⟩ := LenIs.out h
    exact ⟨a, vs, rfl, s.seq, by rw [← rr.length, hl], μ, ρ, S, xs, R, f, rr, h, q⟩
  | _ => exact h.elim
/-! ### divmod -/
@[reducible] def tDm (ta : TAp) : TEp := fun ρ S R => ta ρ S fun pvs S1 => match dsOf S1 pvs with
  | some [.int i, .int j] => CDivP i j ∧ R (.d (.tuple [.int (i / j), .int (i % j)])) S1
  | _ => False
theorem w_divmod {ce : Expr} (ha : WA X es n t) (hl : ∀ t, PA X es t → PE X ce (tCB (fun xs H Q => ∃ i j, xs = [V.int i, V.int j] ∧ CDivP i j ∧ ∀ p, H p = none → Q (.ref p) (upd H p (.tup [.int (i / j), .int (i % j)]))) t)) : WE X ce (tDm t) := by
  refine ⟨fun c => pe_w (hl _ (ha.pa c)) fun σ H Q ⟨μ, ρ, S, R, f, h, q⟩ => ?_⟩
  refine ⟨μ, ρ, S, _, f, h, fun pvs S1 h1 hl μ1 vs H1 p1 f1 r1 g1 => ?_⟩
  split at h1
  · rename_i i j e1
    have rr := dsOf_rep f1 r1 e1
    cases rr with
    | cons ra rr =>
      cases rr with
      | cons rb rr =>
        cases rr
        refine ⟨i, j, by rw [show _ = V.int i from ra, show _ = V.int j from rb], h1.1, fun p hp => ?_⟩
        exact q _ S1 h1.2 μ1 (.ref p) _ p1 (f1.same (same_new hp)) ⟨p, [.int (i / j), .int (i % j)], rfl, .of upd_same, ⟨_, _, rfl, rfl, _, _, rfl, rfl, rfl⟩⟩ (g1.trans (.new hp))
  · exact h1.elim
/-! ### repr of an int too -/
def rReprI (K : PySem.W.Frag) : List V → Hp → VK → Prop := fun xs H Q => rRepr K xs H Q ∨ ∃ i, xs = [V.int i] ∧ i.natAbs.log2 < 1920 ∧ Q (.str (toString i)) H
@[reducible] def aReprI : OpA := fun ds k => match ds with
  | [.list xs] => (RpsOk xs ∧ (PyData.list xs).depth ≤ 60 ∧ bndD (.list xs) ≤ sizeLine) ∧ k (.str (PyData.list xs).shown)
  | [.tuple xs] => (RpsOk xs ∧ (PyData.tuple xs).depth ≤ 60 ∧ bndD (.tuple xs) ≤ sizeLine) ∧ k (.str (PyData.tuple xs).shown)
  | [.int i] => i.natAbs.log2 < 1920 ∧ k (.str (PyData.int i).shown)
  | _ => False
theorem ok_reprI : OpaOk K (rReprI K) aReprI := by
  intro H ds vs k Q r h q
  unfold aReprI at h
  split at h
  · exact .inl (ok_repr H _ vs k Q r h q)
  · exact .inl (ok_repr H _ vs k Q r h q)
  · rename_i i
    cases r with
    | cons r t =>
      cases t
      refine .inr ⟨i, by rw [show _ = V.int i from r], h.1, q.val _ _ H h.2 ?_ (.refl _)⟩
      show V.str _ = V.str _
      rw [PyData.shown]
  · exact h.elim
theorem call_reprI (hg : X.A.guards = some []) (hr : Room k X.A) : CallR X (.builtin "repr") (rReprI X.K) := (call_reprD hg hr).or SkE.call_repr_int
/-! ### sorted, of ints -/
@[irreducible] def srtI (bs : List Int) (k : PyData → Prop) : Prop := ∀ ns' : List Int, ns'.Perm bs → ns'.Pairwise (· ≤ ·) → k (.list (ns'.map PyData.int))
theorem srt_ok {bs : List Int} {k : PyData → Prop} (h : ∀ ns' : List Int, ns'.Perm bs → ns'.Pairwise (· ≤ ·) → k (.list (ns'.map PyData.int))) : srtI bs k := by unfold srtI; exact h
@[reducible] def aSorted : OpA := fun ds k => match ds with
  | [.list xs] => match intsD xs with
    | some bs => srtI bs k
    | none => False
  | _ => False
theorem ok_sorted : OpaOk K (rSortedI K) aSorted := by
  intro H ds vs k Q r h q
  unfold aSorted at h
  split at h
  · rename_i xs
    split at h
    · rename_i bs e
      cases r with
      | cons r t =>
        cases t
        obtain ⟨l, us, rfl, s, rr⟩ := r
        rw [intsD_eq e] at rr
        rw [Reps.ints rr] at s
        unfold srtI at h
        exact ⟨l, bs, rfl, s.seq, fun ns' p hp hs hn => q.new _ p _ (h ns' hp hs) hn Reps.of_ints⟩
    · exact h.elim
  · exact h.elim
/-! ### a part of a tuple -/
@[irreducible] def onCut (ys : List PyData) (k : List PyData → Prop) : Prop := k ys
theorem cut_ok {ys zs : List PyData} {k : List PyData → Prop} (h : ys = zs) (hk : k zs) : onCut ys k := by
  unfold onCut; rw [h]; exact hk
@[reducible] def tSlT (te : TEp) (tl th : TOp) : TEp := fun ρ S R => te ρ S fun x S1 => tl ρ S1 fun lo S2 => th ρ S2 fun hi S3 => match vw S3 x with
  | some (.tuple xs) => ¬ (HT.sIx xs.length 0 lo = 0 ∧ HT.sIx xs.length xs.length hi = xs.length) ∧ onCut (cutL xs lo hi) fun ys => R (.d (.tuple ys)) S3
  | _ => False
theorem w_slT {lo hi : Option Expr} {tl th : TOp} {p2 : Pos} (he : WE X e te) (hl : WO X lo tl) (hu : WO X hi th) : WE X (.Subscript e (.Slice lo hi none p2) pos) (tSlT te tl th) := by
  refine ⟨fun c => pe_w (pe_slice sl_tup (he.pe c) (hl.po c) (hu.po c)) fun σ H Q ⟨μ, ρ, S, R, f, h, q⟩ => ?_⟩
  refine ⟨μ, ρ, S, _, f, h, fun x S1 h1 μ1 v1 H1 p1 f1 r1 g1 => ⟨μ1, ρ, S1, _, f1, h1, fun lo S2 h2 μ2 H2 p2 f2 g2 => ⟨μ2, ρ, S2, _, f2, h2, fun hi S3 h3 μ3 H3 p3 f3 g3 => ?_⟩⟩⟩
  split at h3
  · rename_i xs e3
    obtain ⟨l, us, rfl, s, rr⟩ := vw_rep f3 (r1.mono (g2.trans g3) (p2.trans p3)) e3
    unfold onCut at h3
    refine ⟨l, us, rfl, s, by rw [← rr.length]; exact h3.1, fun p hp => ?_⟩
    exact q _ S3 h3.2 μ3 (.ref p) _ (p1.trans (p2.trans p3)) (f3.same (same_new hp)) ⟨p, _, rfl, .of upd_same, Reps.mono (.new hp) _ _ (rr.cut lo hi)⟩ (g1.trans (g2.trans (g3.trans (.new hp))))
  · exact h3.elim
end
end Pu

set_option autoImplicit false
namespace Pu
open PySem PySem.Spec PyProof.Rows L2
open PySem.W (alike alike_unique AlikeAll minD maxD min_list_default max_list_default minD_ints reads_keeps dataLt)
section
variable {X : Cx} {K : PySem.W.Frag} {a b e : Expr} {ta tb te td : TEp} {pos : Pos} {k n : Nat} {x : Str} {p : Pos} {es : List Expr} {t : TAp}
/-! ### min(xs, default=z), max(xs, default=z), over data -/
theorem same_read {h : Heap} {d d' : PyData} {v : Value} {as as' : List Addr} (r : Reads h v d as) (r' : Reads h v d' as') (ha : alike d d' = true) : d = d' := alike_unique d d' v as as' ha r r'
theorem minD_mem (dlt : PyData → PyData → Bool) : ∀ (xs : List PyData) (x : PyData), xs.foldl (fun a y => if dlt y a then y else a) x ∈ x :: xs
  | [], x => by simp
  | y :: ys, x => by
    rw [List.foldl_cons]
    have := minD_mem dlt ys (if dlt y x then y else x)
    rw [List.mem_cons] at this ⊢
    rcases this with h | h
    · by_cases c : dlt y x = true
      · rw [if_pos c] at h; right; rw [if_pos c, h]; simp
      · rw [if_neg c] at h; left; rw [if_neg c]; exact h
    · right; exact List.mem_cons_of_mem _ h
def rMinDf (K : PySem.W.Frag) : List V → List V → Hp → VK → Prop := fun xs zs H Q => ∃ (a : Addr) (vs : List V) (ds : List PyData) (z : V), xs = [.ref a] ∧ zs = [z] ∧ SqL K H a vs ∧ DpAll K H vs ds ∧ AlikeAll ds ∧ PyData.depthAll ds ≤ 60 ∧
  (ds = [] → Q z H) ∧ ∀ y ys (i : Nat) v, ds = y :: ys → vs[i]? = some v → ds[i]? = some (minD y ys) → Q v H
theorem readsAll_ix {h : Heap} : ∀ {us : List Value} {ds : List PyData} {as : List Addr}, ReadsAll h us ds as → ∀ (i : Nat) (u : Value), us[i]? = some u → ∃ d bs, ds[i]? = some d ∧ Reads h u d bs
  | _, _, _, .nil, i, u, e => by simp at e
  | _, _, _, .cons (d := d) r _, 0, u, e => by
    simp at e; subst e; exact ⟨d, _, rfl, r⟩
  | _, _, _, .cons _ t, i + 1, u, e => readsAll_ix t i u (by simpa using e)
theorem cr_minDf (hc : X.calm = true) (hr : Room k X.A) : CallRK X (.builtin "min") [Str.ofString "default"] (rMinDf X.K) := by
  intro pins s σ H xs zs us ws Q I r rz h
  obtain ⟨a, vs, ds, z, rfl, rfl, hs, dp, al, dep, q0, q1⟩ := h
  obtain ⟨its, rv, hl, _⟩ := I.list hs
  rw [Vals.ref1 r]
  obtain ⟨w1, rfl, rw1⟩ := vals1 rz
  obtain ⟨as, rd⟩ := Dp.readsAll I ds vs its dp rv
  have hun := hr.units
  refine min_list_default (vs := its.toArray) (I.ok.hd hc) hl.isList (by simpa using rd) al (by omega) (fun e h' tk hk => ⟨z, H, I.kept hk, rw1, q0 e⟩) (fun y ys i v h' tk bs e hv rr hk => ?_)
  have hv' : its[i]? = some v := by simpa using hv
  obtain ⟨d, bs', hd, rd'⟩ := readsAll_ix rd i v hv'
  have hi : i < vs.length := by rw [rv.length]; exact (List.getElem?_eq_some_iff.mp hv').1
  obtain ⟨u, hu, ru⟩ := rv.get (List.getElem?_eq_getElem hi)
  rw [hv'] at hu; cases hu
  have hm : minD y ys ∈ ds := by rw [e]; exact minD_mem _ _ _
  have hdm : d ∈ ds := List.mem_of_getElem? hd
  have ed : d = minD y ys := same_read (reads_keeps hk rd') rr (al.1 _ hdm _ hm)
  exact ⟨_, H, I.kept hk, ru, q1 y ys i _ e (List.getElem?_eq_getElem hi) (by rw [hd, ed])⟩
@[irreducible] def onMin (xs : List PyData) (z : PyData) (k : PyData → Prop) : Prop := (AlikeAll xs ∧ noDs xs = true) ∧ PyData.depthAll xs ≤ 60 ∧ (xs = [] → k z) ∧ ∀ y ys, xs = y :: ys → k (minD y ys)
@[reducible] def tMnD (te td : TEp) : TEp := fun ρ S R => te ρ S fun x S1 => td ρ S1 fun z S2 => match vw S2 x, z with
  | some (.list xs), .d y => onMin xs y fun r => R (.d r) S2
  | _, _ => False
theorem w_minDf (he : WE X e te) (hd : WE X a td) {ce : Expr} (hl : ∀ t t', PE X e t → PE X a t' → PE X ce (tCKw (rMinDf X.K) (tCons t tNil) (tCons t' tNil))) : WE X ce (tMnD te td) := by
  refine ⟨fun c => pe_w (hl _ _ (he.pe c) (hd.pe c)) fun σ H Q ⟨μ, ρ, S, R, f, h, q⟩ => ?_⟩
  refine ⟨μ, ρ, S, _, f, h, fun x S1 h1 μ1 v1 H1 p1 f1 r1 g1 => ⟨μ1, ρ, S1, _, f1, h1, fun z S2 h2 μ2 v2 H2 p2 f2 r2 g2 => ?_⟩⟩
  split at h2
  · rename_i xs y e1
    unfold onMin at h2
    obtain ⟨⟨h3, h3'⟩, h4, h5, h6⟩ := h2
    obtain ⟨l, vs, rfl, s, rr⟩ := vw_rep f2 (r1.mono g2 p2) e1
    refine ⟨l, vs, xs, v2, rfl, rfl, s.seq, dps_of h3' rr, h3, h4, fun ez => q _ S2 (h5 ez) μ2 v2 H2 (p1.trans p2) f2 r2 (g1.trans g2), fun w ws i v ez hv hm => ?_⟩
    exact q _ S2 (h6 w ws ez) μ2 v H2 (p1.trans p2) f2 (rr.at hm hv) (g1.trans g2)
  · exact h2.elim
theorem alike_ints (ns : List Int) : AlikeAll (ns.map PyData.int) := ⟨fun x hx y hy => by
  obtain ⟨i, _, rfl⟩ := List.mem_map.mp hx
  obtain ⟨j, _, rfl⟩ := List.mem_map.mp hy
  rfl, fun x hx => by
  obtain ⟨i, _, rfl⟩ := List.mem_map.mp hx
  exact fun z => nomatch z⟩
theorem depth_ints : ∀ ns : List Int, PyData.depthAll (ns.map PyData.int) = 0
  | [] => rfl
  | n :: ns => by rw [List.map_cons, PyData.depthAll, depth_ints ns]; rfl
theorem foldl_min : ∀ (ns : List Int) (n : Int), (ns.foldl min n ∈ n :: ns) ∧ ∀ y ∈ n :: ns, ns.foldl min n ≤ y
  | [], n => ⟨by simp, fun y hy => by simp at hy; subst hy; exact Int.le_refl _⟩
  | m :: ms, n => by
    obtain ⟨h1, h2⟩ := foldl_min ms (min n m)
    rw [List.foldl_cons]
    refine ⟨?_, fun y hy => ?_⟩
    · rw [List.mem_cons] at h1
      rcases h1 with h | h
      · rw [h]; have : min n m = n ∨ min n m = m := by omega
        rcases this with z | z <;> simp [z]
      · simp [h]
    · have h3 := h2 (min n m) (by simp)
      simp only [List.mem_cons] at hy
      rcases hy with rfl | rfl | hy
      · omega
      · omega
      · exact h2 y (by simp [hy])
theorem noDs_ints : ∀ ns : List Int, noDs (ns.map PyData.int) = true
  | [] => rfl
  | _ :: ns => by
    have := noDs_ints ns
    simp only [List.map_cons, noDs, this]; rfl
/-- the least of ints, or the default -/
theorem min_ints {ns : List Int} {z : PyData} {k : PyData → Prop} (h0 : ns = [] → k z) (h1 : ∀ m, m ∈ ns → (∀ y ∈ ns, m ≤ y) → k (.int m)) : onMin (ns.map PyData.int) z k := by
  unfold onMin
  refine ⟨⟨alike_ints ns, noDs_ints ns⟩, by rw [depth_ints]; omega, fun e => h0 (by simpa using e), fun y ys e => ?_⟩
  cases ns with
  | nil => simp at e
  | cons n ns =>
    rw [List.map_cons] at e
    injection e with e1 e2
    subst e1; subst e2
    rw [minD_ints]
    obtain ⟨h2, h3⟩ := foldl_min ns n
    exact h1 _ h2 h3
/-! ### repr of any data -/
structure OnRepr (d : PyData) (p : Prop) : Prop where
  ok : RpOk d
  dep : d.depth ≤ 60
  sz : bndD d ≤ sizeLine
  yes : p
def rReprA (K : PySem.W.Frag) : List V → Hp → VK → Prop := fun xs H Q => rReprI K xs H Q ∨ (xs = [.non] ∧ Q (.str "None") H) ∨ (∃ b, xs = [V.bl b] ∧ Q (.str (if b then "True" else "False")) H) ∨ ∃ z, xs = [V.str z] ∧ (reprText z).length ≤ sizeLine ∧ Q (.str (reprText z)) H
theorem call_reprA (hg : X.A.guards = some []) (hr : Room k X.A) : CallR X (.builtin "repr") (rReprA X.K) := by
  refine (call_reprI hg hr).or (CallR.or ?_ (CallR.or ?_ ?_))
  · intro pins s σ H xs us Q I r h
    obtain ⟨rfl, q⟩ := h
    obtain ⟨u, rfl, ru⟩ := vals1 r
    obtain rfl : u = Value.none := ru
    exact PySem.P.repr_of_none ⟨.str _, H, I.tok _, ⟨_, rfl⟩, q⟩
  · intro pins s σ H xs us Q I r h
    obtain ⟨b, rfl, q⟩ := h
    obtain ⟨u, rfl, ru⟩ := vals1 r
    obtain rfl : u = Value.bool b := ru
    refine PySem.P.repr_of_bool ⟨.str _, H, I.tok _, ⟨s.toks, ?_⟩, q⟩
    cases b <;> rfl
  · intro pins s σ H xs us Q I r h
    obtain ⟨z, rfl, hz, q⟩ := h
    obtain ⟨u, rfl, t, rfl⟩ := vals1 r
    exact PySem.P.repr_of_str ⟨.str _, H, I.tok _, ⟨_, rfl⟩, q⟩ hz
@[reducible] def aReprA : OpA := fun ds k => match ds with
  | [d] => OnRepr d (k (.str d.shown))
  | _ => False
theorem ok_reprA : OpaOk K (rReprA K) aReprA := by
  intro H ds vs k Q r h q
  unfold aReprA at h
  split at h
  · rename_i d
    obtain ⟨h1, h2, h3, h⟩ := h
    have r0 := r
    cases r with
    | cons r t =>
      cases t
      cases d with
      | list xs => exact .inl (.inl (ok_repr H _ _ k Q r0 ⟨⟨h1, h2, h3⟩, h⟩ q))
      | tuple xs => exact .inl (.inl (ok_repr H _ _ k Q r0 ⟨⟨h1, h2, h3⟩, h⟩ q))
      | int i => exact .inl (ok_reprI H _ _ k Q r0 ⟨h1, h⟩ q)
      | none => exact .inr (.inl ⟨by rw [show _ = V.non from r], q.val _ _ H h (by simp only [PyData.shown]; rfl) (.refl _)⟩)
      | bool b => exact .inr (.inr (.inl ⟨b, by rw [show _ = V.bl b from r], q.val _ _ H h (by simp only [PyData.shown]; cases b <;> rfl) (.refl _)⟩))
      | str z => exact .inr (.inr (.inr ⟨z, by rw [show _ = V.str z from r], h3, q.val _ _ H h (by simp only [PyData.shown]; rfl) (.refl _)⟩))
      | dict _ => exact h1.elim
  · exact h.elim
/-- data whose text is not too long: b letters, d deep -/
structure Shw (b n : Nat) (d : PyData) : Prop where
  ok : RpOk d
  dep : d.depth ≤ n
  sz : bndD d ≤ b
theorem Shw.up {b n b' n' : Nat} {d : PyData} (h : Shw b n d) (hb : b ≤ b') (hn : n ≤ n') : Shw b' n' d := ⟨h.ok, Nat.le_trans h.dep hn, Nat.le_trans h.sz hb⟩
theorem Shw.on {b n : Nat} {d : PyData} {p : Prop} (h : Shw b n d) (hp : p) (hn : n ≤ 60 := by decide) (hb : b ≤ sizeLine := by decide) : OnRepr d p := ⟨h.ok, Nat.le_trans h.dep hn, Nat.le_trans h.sz hb, hp⟩
theorem shw_int {n : Nat} {i : Int} {m : Nat} (h : i.natAbs < 2 ^ m) (hm : m ≤ 1919 := by decide) : Shw 2000 n (.int i) := by
  refine ⟨?_, Nat.zero_le _, Nat.le_refl _⟩
  show i.natAbs.log2 < 1920
  by_cases h0 : i.natAbs = 0
  · rw [h0]; decide
  · exact Nat.lt_of_lt_of_le ((Nat.log2_lt h0).mpr h) (by omega)
theorem shw_none {b n : Nat} (h : 4 ≤ b := by decide) : Shw b n .none := ⟨trivial, Nat.zero_le _, h⟩
theorem shw_bool {n : Nat} (c : Bool) {b : Nat} (h : 5 ≤ b := by decide) : Shw b n (.bool c) := ⟨trivial, Nat.zero_le _, h⟩
theorem shw_str {n : Nat} (z : Str) {b : Nat} (h : (reprText z).length ≤ b := by decide) : Shw b n (.str z) := ⟨trivial, Nat.zero_le _, h⟩
theorem shw_all {b n : Nat} : ∀ {xs : List PyData}, (∀ x ∈ xs, Shw b n x) → RpsOk xs ∧ PyData.depthAll xs ≤ n ∧ bndsD xs ≤ xs.length * (b + 2)
  | [], _ => ⟨trivial, Nat.zero_le _, Nat.zero_le _⟩
  | x :: xs, h => by
    obtain ⟨h1, h2, h3⟩ := h x (by simp)
    obtain ⟨g1, g2, g3⟩ := shw_all (xs := xs) fun y hy => h y (by simp [hy])
    refine ⟨⟨h1, g1⟩, ?_, ?_⟩
    · rw [PyData.depthAll]; omega
    · rw [bndsD, List.length_cons, Nat.add_mul]; omega
theorem shw_list {b n m : Nat} {xs : List PyData} (h : ∀ x ∈ xs, Shw b n x) (hl : xs.length ≤ m) : Shw (m * (b + 2) + 2) (n + 1) (.list xs) := by
  obtain ⟨g1, g2, g3⟩ := shw_all h
  refine ⟨g1, ?_, ?_⟩
  · rw [PyData.depth]; omega
  · have := Nat.mul_le_mul_right (b + 2) hl
    rw [bndD]; omega
theorem shw_tup {b n m : Nat} {xs : List PyData} (h : ∀ x ∈ xs, Shw b n x) (hl : xs.length ≤ m) : Shw (m * (b + 2) + 3) (n + 1) (.tuple xs) := by
  obtain ⟨g1, g2, g3⟩ := shw_all h
  refine ⟨g1, ?_, ?_⟩
  · rw [PyData.depth]; omega
  · have := Nat.mul_le_mul_right (b + 2) hl
    rw [bndD]; omega
end
end Pu

set_option autoImplicit false
namespace Pu
open PySem PySem.Spec PyProof.Rows L2
open PySem.W (alike alike_unique AlikeAll minD maxD min_list_default max_list_default minD_ints reads_keeps dataLt)
section
variable {X : Cx} {K : PySem.W.Frag} {a b e : Expr} {ta tb te td : TEp} {pos : Pos} {k n : Nat} {x : Str} {p : Pos} {es : List Expr} {t : TAp}
/-! ### a module's constants -/
def Cst (K : PySem.W.Frag) (mg : Str → Option Value) (x : Str) (d : PyData) : Prop := ∃ v u, mg x = some u ∧ RelV v u ∧ ∀ H, Rep K H d v
theorem cst_int {mg : Str → Option Value} {i : Int} {t : Tok} (h : mg x = some (.int i t)) : Cst K mg x (.int i) := ⟨.int i, _, h, ⟨t, rfl⟩, fun _ => rfl⟩
theorem cst_str {mg : Str → Option Value} {z : Str} {t : Tok} (h : mg x = some (.str z t)) : Cst K mg x (.str z) := ⟨.str z, _, h, ⟨t, rfl⟩, fun _ => rfl⟩
theorem cst_pair {mg : Str → Option Value} {r : Addr} {i j : Int} {s t : Tok} {dd : Option Addr} {n : Nat} {sl : Array (Option Value)} (h : mg x = some (.ref r)) (l : K.lookup r = some ⟨.type "tuple", dd, .seq #[.int i s, .int j t] n, sl⟩) : Cst K mg x (.tuple [.int i, .int j]) :=
  ⟨.ref r, _, h, rfl, fun H => ⟨r, [.int i, .int j], rfl, .inr ⟨_, _, _, l, rfl, rfl, (show 2 ≤ sizeLine by decide), .cons ⟨s, rfl⟩ (.cons ⟨t, rfl⟩ .nil)⟩, ⟨_, _, rfl, rfl, _, _, rfl, rfl, rfl⟩⟩⟩
theorem cst_text {mg : Str → Option Value} {r : Addr} {z : Str} {s : Tok} {dd : Option Addr} {n : Nat} {sl : Array (Option Value)} (h : mg x = some (.ref r)) (l : K.lookup r = some ⟨.type "tuple", dd, .seq #[.str z s] n, sl⟩) : Cst K mg x (.tuple [.str z]) :=
  ⟨.ref r, _, h, rfl, fun H => ⟨r, [.str z], rfl, .inr ⟨_, _, _, l, rfl, rfl, (show 1 ≤ sizeLine by decide), .cons ⟨s, rfl⟩ .nil⟩, ⟨_, _, rfl, rfl, rfl⟩⟩⟩
theorem w_cst {d : PyData} (h : Cst X.K X.mg x d) (hg : Gl X x) (hd : (x == ("__debug__" : Str)) = false := by decide) : WE X (.Name x pos) (tCo d) := by
  obtain ⟨v, u, hm, r, rep⟩ := h
  exact w_co (pe_glob hg hm r hd) rep
/-! ### a statement that is not reached -/
@[reducible] def tNever : TSp := fun _ _ _ => False
theorem ws_never {st : Stmt} : WS X st tNever := ⟨fun c => ⟨fun _ _ _ _ _ _ ⟨_, _, _, _, _, h, _⟩ => h.elim⟩⟩
/-! ### tuple(xs) -/
@[reducible] def aTup : OpA := fun ds k => match ds with
  | [.list xs] => k (.tuple xs)
  | [.tuple xs] => k (.tuple xs)
  | _ => False
theorem ok_tup : OpaOk K (fun xs H Q => ∃ p ys, xs = [V.ref p] ∧ ((SqL K H p ys ∧ ∀ l, H l = none → Q (.ref l) (upd H l (.tup ys))) ∨ (SqT K H p ys ∧ Q (.ref p) H))) aTup := by
  intro H ds vs k Q r h q
  unfold aTup at h
  split at h
  · rename_i xs
    cases r with
    | cons r t =>
      cases t
      obtain ⟨l, us, rfl, s, rr⟩ := r
      exact ⟨l, us, rfl, .inl ⟨s.seq, fun p hp => q.val _ _ _ h ⟨p, us, rfl, .of upd_same, Reps.mono (.new hp) _ _ rr⟩ (same_new hp)⟩⟩
  · rename_i xs
    cases r with
    | cons r t =>
      cases t
      obtain ⟨l, us, rfl, s, rr⟩ := r
      exact ⟨l, us, rfl, .inr ⟨s, q.val _ _ _ h ⟨l, us, rfl, s, rr⟩ (.refl _)⟩⟩
  · exact h.elim
/-! ### xs.extend(a new list) -/
@[reducible] def tExt (i : Nat) (t : TNp) : TEp := fun ρ S R => match sltAt ρ i with
  | some (.cel j) => match cellAt S j with
    | some (.lst _) => t ρ S fun zs S2 => match cellAt S2 j with
      | some (.lst xs) => xs.length + zs.length ≤ sizeLine ∧ R (.d .none) (setS S2 j (.lst (xs ++ zs)))
      | _ => False
    | _ => False
  | _ => False
theorem w_extend {i : Nat} {o a : Expr} {ta : TNp} {apos cpos : Pos} (ha : WN X a ta) (hp : ∀ t, PE X a t → PE X (.Call (.Attribute o "extend" apos) [a] [] cpos) (tBM X.K "list" rExtend (tVar i) (tCons t tNil))) :
    WE X (.Call (.Attribute o "extend" apos) [a] [] cpos) (tExt i ta) := by
  refine ⟨fun c => pe_w (hp _ (ha.pe c)) fun σ H Q ⟨μ, ρ, S, R, f, h, q⟩ => ?_⟩
  unfold tExt at h
  split at h
  · rename_i j e0
    obtain ⟨v1, hv, a, ha, rfl⟩ := f.slot (sltAt_get e0)
    split at h
    · rename_i xs0 e1
      rw [cellAt_get] at e1
      obtain ⟨a', ha', vs, e3, rr⟩ := f.at e1
      rw [ha] at ha'; cases ha'
      refine ⟨_, hv, .inl ⟨rfl, _, .of e3⟩, μ, ρ, S, _, f, h, fun zs S2 h2 μ2 p2' ws H2 p2 f2 hp2 np no r2 g2 => ?_⟩
      rw [cellAt_get] at h2
      split at h2
      · rename_i ys e4
        obtain ⟨hz, h2⟩ := h2
        obtain ⟨a', ha', us, e5, rr2⟩ := f2.at e4
        have ha3 := p2.get ha
        rw [ha3] at ha'; cases ha'
        obtain ⟨f4, g4⟩ := f2.write (o := .lst (us ++ ws)) (y := .lst (ys ++ zs)) e4 ha3 ⟨_, upd_same, Reps.mono (.put e5) _ _ (rr2.append r2)⟩
        refine ⟨a, p2', us, ws, rfl, rfl, e5, hp2, by rw [← rr2.length, ← r2.length]; exact hz, ?_⟩
        exact q (.d .none) _ h2 μ2 .non _ p2 f4 rfl (g2.trans g4)
      · exact h2.elim
    · exact h.elim
  · exact h.elim
/-! ### xs[i] = e at any place -/
structure OnPut (n : Nat) (i : Int) (k : Nat → Prop) : Prop where
  put : ∃ m, ixN n i = some m ∧ k m
theorem put_last {n : Nat} {k : Nat → Prop} (h0 : 0 < n) (h : k (n - 1)) : OnPut n (-1) k := ⟨n - 1, by
  unfold ixN
  rw [if_neg (by decide), if_pos (by omega)]; congr 1; omega, h⟩
theorem put_at {n : Nat} {i : Int} {k : Nat → Prop} (h0 : 0 ≤ i) (h1 : i < n) (h : k i.toNat) : OnPut n i k := ⟨i.toNat, by
  unfold ixN
  rw [if_pos h0, if_pos h1], h⟩
@[reducible] def tSbJ (to ti te : TEp) : TSp := fun E ρ S => te ρ S fun v S1 => to ρ S1 fun o S2 => ti ρ S2 fun i S3 => match o, i, v with
  | .cel j, .d (.int k), .d y => match cellAt S3 j with
    | some (.lst xs) => OnPut xs.length k fun m => E.nx ρ (setS S3 j (.lst (xs.set m y)))
    | _ => False
  | _, _, _ => False
theorem ws_subJ {o i e : Expr} {to ti te : TEp} {pos2 : Pos} (ho : WE X o to) (hi : WE X i ti) (he : WE X e te)
    (ha : ∀ v, assign (.Subscript o i pos2) X.env v = (do
      let ov ← holding [v] (eval o X.env)
      let iv ← holding [v, ov] (eval i X.env)
      standAt pos2
      holding [v, ov, iv] (setItem ov iv v)
      release [v, ov, iv] []) := by intro _; rfl)
    (hs : swapsWithSole [.Subscript o i pos2] e pos.line X.env = pure false := by rfl) (hw : swappedStores [.Subscript o i pos2] e X.env = pure none := by rfl) : WS X (.Assign [.Subscript o i pos2] e pos) (tSbJ to ti te) := by
  refine ⟨fun c => ps_w (ps_asg (he.pe c) (pg_sub (ho.pe c) (hi.pe c) set_list ha) hs hw) fun D σ H ⟨μ, ρ, S, E, f, h, q⟩ => ?_⟩
  refine ⟨μ, ρ, S, _, f, h, fun v S1 h1 μ1 v1 H1 p1 f1 r1 g1 => ⟨μ1, ρ, S1, _, f1, h1, fun ov S2 h2 μ2 v2 H2 p2 f2 r2 g2 => ⟨μ2, ρ, S2, _, f2, h2, fun iv S3 h3 μ3 v3 H3 p3 f3 r3 g3 => ?_⟩⟩⟩
  split at h3
  · rename_i j k y
    obtain ⟨a, ha, rfl⟩ := r2
    rw [cellAt_get] at h3
    split at h3
    · rename_i xs e1
      obtain ⟨m, e2, h3⟩ := h3.put
      obtain ⟨a', ha', vs, e3, rr⟩ := f3.at e1
      have ha3 := p3.get ha
      rw [ha3] at ha'; cases ha'
      have r1' : Rep X.K H3 y v1 := Rep.mono (g2.trans g3) _ _ r1
      obtain ⟨f4, g4⟩ := f3.write (o := .lst (vs.set m v1)) (y := .lst (xs.set m y)) e1 ha3 ⟨_, upd_same, Reps.mono (.put e3) _ _ (Reps.set r1' m rr)⟩
      exact ⟨a, vs, k, m, rfl, r3, e3, by rw [← rr.length]; exact e2, q.nx _ _ h3 μ3 σ _ (p1.trans (p2.trans p3)) f4 (g1.trans (g2.trans (g3.trans g4)))⟩
    · exact h3.elim
  · exact h3.elim
/-! ### in -/
def flatD : PyData → Bool
  | .none => true
  | .bool _ => true
  | .int _ => true
  | .str _ => true
  | _ => false
def flatVD : PyData → V
  | .none => .non
  | .bool c => .bl c
  | .int i => .int i
  | .str z => .str z
  | _ => .non
theorem flat_rep {H : Hp} : ∀ {d : PyData} {v : V}, flatD d = true → RepR K H d v → v = flatVD d ∧ flatV v = true
  | .none, _, _, r => by rw [show _ = V.non from r]; exact ⟨rfl, rfl⟩
  | .bool c, _, _, r => by rw [show _ = V.bl c from r]; exact ⟨rfl, rfl⟩
  | .int i, _, _, r => by rw [show _ = V.int i from r]; exact ⟨rfl, rfl⟩
  | .str z, _, _, r => by rw [show _ = V.str z from r]; exact ⟨rfl, rfl⟩
theorem flats_rep {H : Hp} : ∀ {ds : List PyData} {vs : List V}, ds.all flatD = true → Reps K H ds vs → vs = ds.map flatVD ∧ vs.all flatV = true
  | [], _, _, r => by rw [show _ = [] from r]; exact ⟨rfl, rfl⟩
  | d :: ds, _, h, ⟨v, ws, e, r, t⟩ => by
    rw [List.all_cons, Bool.and_eq_true] at h
    obtain ⟨e1, f1⟩ := flat_rep h.1 (Rep.read r)
    obtain ⟨e2, f2⟩ := flats_rep h.2 t
    subst e
    exact ⟨by rw [e1, e2]; rfl, by rw [List.all_cons, f1, f2]; rfl⟩
def inD' (d : PyData) (ds : List PyData) : Bool := ds.any fun y => eqV (flatVD y) (flatVD d)
theorem inV_D (d : PyData) (ds : List PyData) : inV (flatVD d) (ds.map flatVD) = inD' d ds := by
  unfold inV inD'
  rw [List.any_map]; rfl
structure OnIn (d : PyData) (ds : List PyData) (p : Prop) : Prop where
  fd : flatD d = true
  fs : ds.all flatD = true
  yes : p
@[reducible] def dIn (f : Bool → Bool) : OpD := fun a b k => match b with
  | .list ys => OnIn a ys (k (.bool (f (inD' a ys))))
  | .tuple ys => OnIn a ys (k (.bool (f (inD' a ys))))
  | _ => False
theorem ok_in : OpdOk K (rIn K false) (dIn id) := by
  intro H a b va vb k Q ra rb h q
  unfold dIn at h
  split at h
  · rename_i ys
    obtain ⟨fd, fs, h⟩ := h
    obtain ⟨l, us, rfl, s, rr⟩ := rb
    obtain ⟨e1, f1⟩ := flat_rep fd ra
    obtain ⟨e2, f2⟩ := flats_rep fs rr
    refine ⟨l, us, rfl, .inl s.seq, f1, f2, ?_⟩
    rw [e1, e2, inV_D]
    exact q.val _ _ H h rfl (.refl _)
  · rename_i ys
    obtain ⟨fd, fs, h⟩ := h
    obtain ⟨l, us, rfl, s, rr⟩ := rb
    obtain ⟨e1, f1⟩ := flat_rep fd ra
    obtain ⟨e2, f2⟩ := flats_rep fs rr
    refine ⟨l, us, rfl, .inr s, f1, f2, ?_⟩
    rw [e1, e2, inV_D]
    exact q.val _ _ H h rfl (.refl _)
  · exact h.elim
theorem ok_notIn : OpdOk K (rIn K true) (dIn bnot) := by
  intro H a b va vb k Q ra rb h q
  unfold dIn at h
  simp only [bnot_eq] at h
  split at h
  · rename_i ys
    obtain ⟨fd, fs, h⟩ := h
    obtain ⟨l, us, rfl, s, rr⟩ := rb
    obtain ⟨e1, f1⟩ := flat_rep fd ra
    obtain ⟨e2, f2⟩ := flats_rep fs rr
    refine ⟨l, us, rfl, .inl s.seq, f1, f2, ?_⟩
    rw [e1, e2, inV_D]
    exact q.val _ _ H h rfl (.refl _)
  · rename_i ys
    obtain ⟨fd, fs, h⟩ := h
    obtain ⟨l, us, rfl, s, rr⟩ := rb
    obtain ⟨e1, f1⟩ := flat_rep fd ra
    obtain ⟨e2, f2⟩ := flats_rep fs rr
    refine ⟨l, us, rfl, .inr s, f1, f2, ?_⟩
    rw [e1, e2, inV_D]
    exact q.val _ _ H h rfl (.refl _)
  · exact h.elim
theorem m_in {f : Bool} : R2m (rIn K f) := fun _ _ _ _ _ h ⟨p, xs, a, b, c, d, q⟩ => ⟨p, xs, a, b, c, d, h _ _ q⟩
theorem w_in (hk : Room k X.A) (ha : WE X a ta) (hb : WE X b tb) (hm : behindInMarks .In b = false := by rfl) : WE X (.Compare a [.In] [b] pos) (tBin (dIn id) ta tb) := w_cmp op_in_seq ok_in ha hb hm
theorem w_notIn (hk : Room k X.A) (ha : WE X a ta) (hb : WE X b tb) (hm : behindInMarks .NotIn b = false := by rfl) : WE X (.Compare a [.NotIn] [b] pos) (tBin (dIn bnot) ta tb) := w_cmp op_notIn_seq ok_notIn ha hb hm
theorem wt_in (hk : Room k X.A) (ha : WE X a ta) (hb : WE X b tb) (hm : behindInMarks .In b = false := by rfl) : WT X (.Compare a [.In] [b] pos) (tTst (tBin (dIn id) ta tb)) := w_tcmp op_in_seq ok_in m_in ha hb hm
theorem wt_notIn (hk : Room k X.A) (ha : WE X a ta) (hb : WE X b tb) (hm : behindInMarks .NotIn b = false := by rfl) : WT X (.Compare a [.NotIn] [b] pos) (tTst (tBin (dIn bnot) ta tb)) := w_tcmp op_notIn_seq ok_notIn m_in ha hb hm
/-- an int among ints -/
theorem in_ints (i : Int) (ns : List Int) : inD' (.int i) (ns.map PyData.int) = decide (i ∈ ns) := by
  unfold inD'
  rw [List.any_map]
  by_cases h : i ∈ ns
  · rw [decide_eq_true h, List.any_eq_true]
    exact ⟨i, h, by show (i == i) = true; simp⟩
  · rw [decide_eq_false h, List.any_eq_false]
    intro j hj z
    have z' : (j == i) = true := z
    rw [beq_iff_eq] at z'
    subst z'; exact h hj
theorem flat_ints : ∀ ns : List Int, (ns.map PyData.int).all flatD = true
  | [] => rfl
  | n :: ns => by rw [List.map_cons, List.all_cons, flat_ints ns]; rfl
theorem on_in {i : Int} {ns : List Int} {p : Prop} (h : p) : OnIn (.int i) (ns.map PyData.int) p := ⟨rfl, flat_ints ns, h⟩
/-! ### a def that changes its first argument and hands back a new list -/
abbrev MFnN := List PyData → List PyData → (List PyData → List PyData → Prop) → Prop
def mutN (g : MFnN) : PSp := fun args S R => ∃ xs ds R0, args = .cel 0 :: dA ds ∧ S = [.lst xs] ∧ g xs ds R0 ∧ ∀ rs ys, R0 rs ys → ∀ i S', cellAt S' i = some (.lst rs) → R (.cel (i + 1)) (.lst ys :: S')
@[reducible] def tClMN (g : MFnN) (ta : TAp) : TNp := fun ρ S R => ta ρ S fun pvs S1 => match pvs with
  | .cel i :: rest => match cellAt S1 i, dsP rest with
    | some (.lst xs), some ds => g xs ds fun rs ys => R rs (setS S1 i (.lst ys))
    | _, _ => False
  | _ => False
theorem callMN_up {g : MFnN} {c : FP} {σ : L2.St} {H : Hp} {Q : VK} (h : upN X.K c (tClMN g t) σ H Q) : tCall (upF X.K (mutN g)) [] E0 (upA X.K c n t) σ H Q := by
  obtain ⟨μ, ρ, S, R, f, h, q⟩ := h
  refine ⟨μ, ρ, S, _, f, h, fun pvs S1 h1 hl μ1 vs H1 p1 f1 r1 g1 => ?_⟩
  split at h1
  · rename_i i rest
    cases r1 with
    | cons ri r1 =>
      obtain ⟨a, ha, rfl⟩ := ri
      split at h1
      · rename_i xs ds e1 e2
        rw [cellAt_get] at e1
        obtain ⟨a', ha', cr⟩ := f1.at e1
        rw [ha] at ha'; cases ha'
        obtain ⟨rr, _⟩ := dsP_rep r1 e2
        refine ⟨[a], .cel 0 :: dA ds, [.lst xs], fun pv S' => ∃ rs ys i' S2, pv = .cel (i' + 1) ∧ S' = .lst ys :: S2 ∧ cellAt S2 i' = some (.lst rs) ∧ R rs (setS S1 i (.lst ys)), ?_, .cons cr .nil, by simp, ⟨xs, ds, _, rfl, rfl, h1, fun rs ys hr i' S' e => ⟨rs, ys, i', S', rfl, rfl, e, hr⟩⟩, fun pv S' hR μ' v H' p' rc nd' own rp gg same => ?_⟩
        · rw [List.append_nil]; exact .cons ⟨a, rfl, rfl⟩ (pairedD rr)
        · obtain ⟨rs, ys, i', S2, rfl, rfl, e3, hR⟩ := hR
          obtain ⟨rest', rfl⟩ := p'
          cases rc with
          | cons c0 rc =>
            obtain ⟨d, hd, rfl⟩ := rp
            have hd' : rest'[i']? = some d := by simpa using hd
            rw [cellAt_get] at e3
            obtain ⟨d', e4, us, e5, r5⟩ := paired_get rc e3
            have e4' : rest'[i']? = some d' := e4
            rw [hd'] at e4'; cases e4'
            have od := own d (by simp [List.mem_of_getElem? hd'])
            have f2 := f1.put ha (fun b o e hb => same b o e (by simpa using hb)) gg c0
            have hda : d ≠ a := fun z => by
              subst z
              have nd2 : (d :: rest').Nodup := nd'
              exact (List.nodup_cons.mp nd2).1 (List.mem_of_getElem? hd')
            have hdn : H1 d = none := by
              rcases od with z | z
              · exact absurd (by simpa using z) hda
              · exact z
            exact q rs _ hR μ1 d us H' p1 f2 e5 (f1.notIn hdn) (f1.noH0 hdn) r5 (g1.trans gg)
      · exact h1.elim
  · exact h1.elim
theorem w_callMN {g : MFnN} {f : Addr} {fd : FuncData} {ps : List Str} (F : FnOkG X.prog X.w X.K X.mg X.base k f fd ps (upF X.K (mutN g))) (hr : Room k X.A) (hgs : X.A.guards = some []) (hg : Gl X x) (hm : X.mg x = some (.ref f)) (hk : PySem.W.keepIn X.K (.ref f) = true) (hb : Binds X.K fd ps [])
    (ha : WA X (e :: es) n t) (hdb : (x == ("__debug__" : Str)) = false := by decide) (he : starEach (e :: es) X.env = (false, eval e X.env) :: starEach es X.env := by rfl) (hpl : (backTo pos (starEach es X.env)).any (·.1) = false := by rfl) :
    WN X (.Call (.Name x p) (e :: es) [] pos) (tClMN g t) :=
  ⟨fun c => pe_w (pe_callG F hr hgs hg hm hk hb .nil (ha.pa c) hdb he hpl) fun _ _ _ h => callMN_up h⟩
/-! ### xs[::-1] -/
@[reducible] def tRvN (te : TEp) : TNp := fun ρ S R => te ρ S fun x S1 => match vw S1 x with
  | some (.list xs) => R xs.reverse S1
  | _ => False
theorem wn_rev {k1 : Nat} {p1 p2 p3 : Pos} (he : WE X e te) : WN X (.Subscript e (.Slice none none (some (.UnaryOp .USub (.Constant (.int 1) k1 p1) p2)) p3) pos) (tRvN te) := by
  refine ⟨fun c => pe_w (pe_revL (he.pe c)) fun σ H Q ⟨μ, ρ, S, R, f, h, q⟩ => ?_⟩
  refine ⟨μ, ρ, S, _, f, h, fun x S1 h1 μ1 v1 H1 p1 f1 r1 g1 => ?_⟩
  split at h1
  · rename_i xs e3
    obtain ⟨l, us, rfl, s, rr⟩ := vw_rep f1 r1 e3
    exact ⟨l, us, rfl, s.seq, fun p hp => q _ S1 h1 μ1 p _ _ p1 (f1.same (same_new hp)) upd_same (f1.notIn hp) (f1.noH0 hp) (Reps.mono (.new hp) _ _ rr.reverse) (g1.trans (.new hp))⟩
  · exact h1.elim
/-! ### o.reverse() -/
@[reducible] def tRvs (i : Nat) : TEp := fun ρ S R => match sltAt ρ i with
  | some (.cel j) => match cellAt S j with
    | some (.lst xs) => R (.d .none) (setS S j (.lst xs.reverse))
    | _ => False
  | _ => False
theorem w_reverse {i : Nat} {o : Expr} {apos cpos : Pos} (hp : PE X (.Call (.Attribute o "reverse" apos) [] [] cpos) (tBM0 X.K "list" rReverse (tVar i))) : WE X (.Call (.Attribute o "reverse" apos) [] [] cpos) (tRvs i) := by
  refine ⟨fun c => pe_w hp fun σ H Q ⟨μ, ρ, S, R, f, h, q⟩ => ?_⟩
  unfold tRvs at h
  split at h
  · rename_i j e0
    obtain ⟨v1, hv, a, ha, rfl⟩ := f.slot (sltAt_get e0)
    split at h
    · rename_i xs e1
      rw [cellAt_get] at e1
      obtain ⟨a', ha', vs, e3, rr⟩ := f.at e1
      rw [ha] at ha'; cases ha'
      obtain ⟨f4, g4⟩ := f.write (o := .lst vs.reverse) (y := .lst xs.reverse) e1 ha ⟨_, upd_same, Reps.mono (.put e3) _ _ rr.reverse⟩
      exact ⟨_, hv, .inl ⟨rfl, _, .of e3⟩, a, vs, rfl, rfl, e3, q (.d .none) _ h μ .non _ (.refl _) f4 rfl g4⟩
    · exact h.elim
  · exact h.elim
end
end Pu

set_option autoImplicit false
namespace Pu
open PySem PySem.Spec PyProof.Rows L2
section
variable {X : Cx} {k : Nat} {f : Addr} {fd : FuncData} {ps : List Str} {x : Str} {p pos : Pos}
theorem upA_nilQ {K : PySem.W.Frag} {c : FP} {σ : L2.St} {H : Hp} {Q : List V → Hp → Prop} (h : upA K c 0 tAnil σ H Q) : tNil σ H Q := by
  obtain ⟨μ, ρ, S, R, f, h, q⟩ := h
  exact q [] S h rfl μ [] H (.refl _) f .nil (.refl _)
theorem tcall_nil {K : PySem.W.Frag} {c : FP} {sp : Sp} {E : XK} {σ : L2.St} {H : Hp} {Q : VK} (h : tCall sp [] E (upA K c 0 tAnil) σ H Q) : tCall sp [] E tNil σ H Q := upA_nilQ h
/-- a def without parameters -/
theorem w_call0 {fn : PFn} (F : FnOkG X.prog X.w X.K X.mg X.base k f fd ps (upF X.K (pur fn))) (hr : Room k X.A) (hgs : X.A.guards = some []) (hg : Gl X x) (hm : X.mg x = some (.ref f)) (hk : PySem.W.keepIn X.K (.ref f) = true) (hb : Binds X.K fd ps []) (hdb : (x == ("__debug__" : Str)) = false := by decide) :
    WE X (.Call (.Name x p) [] [] pos) (tCl fn tAnil) :=
  ⟨fun c => pe_w (pe_callG0 F hr hgs hg hm hk hb .nil hdb) fun _ _ _ h => tcall_nil (call_up (n := 0) h)⟩
end
/-! ### sum(a tuple of ints) -/
section
variable {X : Cx} {K : PySem.W.Frag}
def rSumT (K : PySem.W.Frag) : List V → Hp → VK → Prop := fun vs H Q => ∃ (a : Addr) (ns : List Int), vs = [V.ref a] ∧ SqT K H a (ns.map V.int) ∧ Q (.int ns.sum) H
theorem cr_sumT (hc : X.calm = true) : CallR X (.builtin "sum") (rSumT X.K) := by
  intro pins s σ H vs us Q I r h
  obtain ⟨a, ns, rfl, hs, q⟩ := h
  obtain ⟨its, rv, hl, _⟩ := I.tuple hs
  rw [Vals.ref1 r]
  obtain ⟨xs, e⟩ := rv.ints.allInts.items
  have hn : numsOf (intItems xs).toList = ns := by rw [← e]; exact rv.ints.numsOf
  rw [nums_intItems] at hn
  rw [e] at hl
  refine PySem.W.ktm_sumG (I.ok.hd hc) hl fun h' tk t' hk => ?_
  rw [preSum_eq, List.take_of_length_le (by simp), hn]
  exact ⟨.int _, H, I.kept hk, ⟨_, rfl⟩, q⟩
@[reducible] def aSumT : OpA := fun ds k => match ds with
  | [.tuple xs] => match intsD xs with
    | some bs => k (.int bs.sum)
    | none => False
  | _ => False
theorem ok_sumT : OpaOk K (rSumT K) aSumT := by
  intro H ds vs k Q r h q
  unfold aSumT at h
  split at h
  · rename_i xs
    split at h
    · rename_i bs e
      cases r with
      | cons r t =>
        cases t
        obtain ⟨l, us, rfl, s, rr⟩ := r
        rw [intsD_eq e] at rr
        rw [Reps.ints rr] at s
        exact ⟨l, bs, rfl, s, q.val _ _ H h rfl (.refl _)⟩
    · exact h.elim
  · exact h.elim
end
end Pu

set_option autoImplicit false
namespace Pu
open PySem PySem.Spec PyProof.Rows L2
/-! ### comprehensions with two clauses -/
/-- any frame -/
def upIE (K : PySem.W.Frag) (ti : TIp) : TI := fun σ H Q => ∃ c μ ρ S R, Fr K c μ ρ S σ H ∧ ti ρ S R ∧
  (∀ items S1, R items S1 → ∀ μ1 H1 J, Pre μ μ1 → Fr K c μ1 ρ S1 σ H1 → Ge H H1 → ItIs K J items H1 → Q J H1)
section
variable {X : Cx} {pos : Pos}
theorem PI.anyF {tg iter : Expr} {ti : TIp} (h : WI X tg iter ti) : PI X tg iter (upIE X.K ti) := ⟨fun pins s σ H R I ⟨c, μ, ρ, S, Q', f, ht, q⟩ => by
  obtain ⟨wi, hp, hw⟩ := h.ex c
  exact hp.run pins s σ H R I (hw μ ρ S σ H Q' R f ht q)⟩
/-- the turns of the inner clause: what is gathered goes on from acc -/
def InB (g : TGp) (tt : TTp) (te : TEp) (vs : List Nat) (ρ : Rho) (items : List PyData) (acc0 : List PyData) (S1 : Sto) (J : List PyData → Sto → Prop) : Prop := ∃ I : Nat → List PyData → Sto → Prop, I 0 acc0 S1 ∧
  (∀ i d acc S, items[i]? = some d → I i acc S → g d (wipeP ρ vs) fun ρ2 => tt ρ2 S fun b S2 => Br b (te ρ2 S2 fun y S3 => match y with
    | .d y => acc.length < sizeLine ∧ I (i + 1) (acc ++ [y]) S3
    | .cel _ => False) (I (i + 1) acc S2)) ∧ ∀ acc S, I items.length acc S → J acc S
def LcB2 (g : TGp) (tt : TTp) (ti1 : TIp) (g1 : TGp) (tt1 : TTp) (te : TEp) (vs vs1 : List Nat) (ρ : Rho) (R : List PyData → Sto → Prop) (items : List PyData) (S1 : Sto) : Prop := ∃ I : Nat → List PyData → Sto → Prop, I 0 [] S1 ∧
  (∀ i d acc S, items[i]? = some d → I i acc S → g d (wipeP ρ vs) fun ρ2 => tt ρ2 S fun b S2 => Br b (ti1 ρ2 S2 fun its1 S3 => InB g1 tt1 te vs1 ρ2 its1 acc S3 (I (i + 1))) (I (i + 1) acc S2)) ∧ ∀ acc S, I items.length acc S → R acc S
@[reducible] def tLC2 (ti : TIp) (g : TGp) (tt : TTp) (ti1 : TIp) (g1 : TGp) (tt1 : TTp) (te : TEp) (vs vs1 : List Nat) : TNp := fun ρ S R => ti ρ S fun items S1 => LcB2 g tt ti1 g1 tt1 te vs vs1 ρ R items S1
/-- the inner clause: each element is told by a function of its item -/
theorem inb_map {g : TGp} {te : TEp} {vs : List Nat} {ρ : Rho} {J : List PyData → Sto → Prop} {items acc0 : List PyData} {S : Sto} (f : PyData → PyData) (hz : acc0.length + items.length ≤ sizeLine)
    (h : ∀ d ∈ items, ∀ k : PQ, k (.d (f d)) S → g d (wipeP ρ vs) fun ρ2 => te ρ2 S k) (hJ : J (acc0 ++ mapD f items) S) : InB g tYesP te vs ρ items acc0 S J := by
  refine ⟨fun i acc S' => acc = acc0 ++ (items.take i).map f ∧ S' = S, ⟨by simp, rfl⟩, ?_, ?_⟩
  · rintro i d _ _ hd ⟨rfl, rfl⟩
    refine h d (List.mem_of_getElem? hd) _ ⟨?_, ?_, rfl⟩
    · have := (List.getElem?_eq_some_iff.mp hd).1
      rw [List.length_append, List.length_map, List.length_take]; omega
    · rw [List.take_add_one, hd]; simp
  · rintro _ _ ⟨rfl, rfl⟩
    rw [List.take_length, ← mapD_eq]; exact hJ
theorem inb_filter {g : TGp} {tt : TTp} {te : TEp} {vs : List Nat} {ρ : Rho} {J : List PyData → Sto → Prop} {items acc0 : List PyData} {S : Sto} (p : PyData → Bool) (f : PyData → PyData) (hz : acc0.length + items.length ≤ sizeLine)
    (h : ∀ d ∈ items, ∀ (k : PQ) (k0 : Sto → Prop), (p d = true → k (.d (f d)) S) → (p d = false → k0 S) → g d (wipeP ρ vs) fun ρ2 => tt ρ2 S fun b S2 => Br b (te ρ2 S2 k) (k0 S2)) (hJ : J (acc0 ++ (items.filter p).map f) S) : InB g tt te vs ρ items acc0 S J := by
  refine ⟨fun i acc S' => acc = acc0 ++ ((items.take i).filter p).map f ∧ S' = S, ⟨by simp, rfl⟩, ?_, ?_⟩
  · rintro i d _ _ hd ⟨rfl, rfl⟩
    refine h d (List.mem_of_getElem? hd) _ (fun S2 => _) (fun hp => ⟨?_, ?_, rfl⟩) (fun hp => ⟨?_, rfl⟩)
    · have := (List.getElem?_eq_some_iff.mp hd).1
      have := List.length_filter_le p (items.take i)
      rw [List.length_take] at this
      rw [List.length_append, List.length_map]; omega
    · rw [List.take_add_one, hd]; simp [hp]
    · rw [List.take_add_one, hd]; simp [hp]
  · rintro _ _ ⟨rfl, rfl⟩
    rw [List.take_length]; exact hJ
/-- the outer clause: what each item gives is told by a function of it -/
theorem lcb2_map {g : TGp} {ti1 : TIp} {g1 : TGp} {tt1 : TTp} {te : TEp} {vs vs1 : List Nat} {ρ : Rho} {R : List PyData → Sto → Prop} {items : List PyData} {S : Sto} (F : PyData → List PyData) (hz : (items.flatMap F).length ≤ sizeLine)
    (h : ∀ d ∈ items, ∀ (acc : List PyData) (J : List PyData → Sto → Prop), acc.length + (F d).length ≤ sizeLine → J (acc ++ F d) S → g d (wipeP ρ vs) fun ρ2 => ti1 ρ2 S fun its1 S3 => InB g1 tt1 te vs1 ρ2 its1 acc S3 J) (hR : R (items.flatMap F) S) : LcB2 g tYesP ti1 g1 tt1 te vs vs1 ρ R items S := by
  refine ⟨fun i acc S' => acc = (items.take i).flatMap F ∧ S' = S, ⟨by simp, rfl⟩, ?_, ?_⟩
  · rintro i d _ _ hd ⟨rfl, rfl⟩
    have e : (items.take (i + 1)).flatMap F = (items.take i).flatMap F ++ F d := by rw [List.take_add_one, hd, List.flatMap_append]; simp
    refine h d (List.mem_of_getElem? hd) _ _ ?_ ⟨e.symm, rfl⟩
    rw [← List.length_append, ← e]
    have p : ((items.take (i + 1)).flatMap F ++ (items.drop (i + 1)).flatMap F).length = (items.flatMap F).length := by rw [← List.flatMap_append, List.take_append_drop]
    rw [List.length_append] at p
    omega
  · rintro _ _ ⟨rfl, rfl⟩
    rw [List.take_length]; exact hR
theorem Fr.wide {K : PySem.W.Frag} {H0 : Hp} {P Q : Addr → Prop} {μ : List Addr} {ρ : Rho} {S : Sto} {σ : L2.St} {H : Hp} (f : Fr K ⟨H0, P⟩ μ ρ S σ H) (h : ∀ a, P a → Q a) : Fr K ⟨H0, Q⟩ μ ρ S σ H :=
  ⟨f.env, f.cel, f.nd, fun a ha => (f.own a ha).imp (h a) id, fun b o e n => f.keep b o e fun z => n (h b z)⟩
theorem Fr.backD {K : PySem.W.Frag} {c : FP} {μ : List Addr} {ρ : Rho} {S : Sto} {σ : L2.St} {H H' : Hp} {D : Addr} {μ' : List Addr} {ρ' : Rho} {S' : Sto} {σ' : L2.St} (f : Fr K c μ ρ S σ H) (oD : c.F0 D ∨ c.H0 D = none) (nD : D ∉ μ') (f' : Fr K ⟨H, fun a => a ∈ μ ∨ a = D⟩ μ' ρ' S' σ' H') : Fr K c μ' ρ' S' σ' H' := by
  refine ⟨f'.env, f'.cel, f'.nd, fun a ha => ?_, fun b o e n => ?_⟩
  · rcases f'.own a ha with z | z
    · rcases z with z | z
      · exact f.own a z
      · subst z; exact absurd ha nD
    · exact f.noH0 z
  · refine f'.keep b o (f.keep b o e n) fun hb => ?_
    rcases hb with hb | hb
    · rcases f.own b hb with z | z
      · exact n z
      · rw [z] at e; cases e
    · subst hb
      rcases oD with z | z
      · exact n z
      · rw [z] at e; cases e
/-- one more element at D -/
theorem Fr.more {K : PySem.W.Frag} {c : FP} {μ : List Addr} {ρ : Rho} {S : Sto} {σ : L2.St} {H : Hp} {D : Addr} {us ws : List V} (f : Fr K c μ ρ S σ H) (hD : H D = some (.lst us)) (nD : D ∉ μ) (oD : c.F0 D ∨ c.H0 D = none) : Fr K c μ ρ S σ (upd H D (.lst ws)) := by
  have g : Ge H (upd H D (.lst ws)) := .put hD
  refine ⟨paired_imp f.env fun _ _ z => SlotR.mono g (.refl _) z, paired_at f.cel fun j z a e1 e2 cr => ?_, f.nd, f.own, fun b ob e nb => ?_⟩
  · have na : a ≠ D := fun h => nD (h ▸ List.mem_of_getElem? e2)
    exact cr.move (fun o e => by rw [upd_ne na]; exact e) g
  · have nb' : b ≠ D := fun h => by
      subst h
      rcases oD with z | z
      · exact nb z
      · rw [z] at e; cases e
    rw [upd_ne nb']; exact f.keep b ob e nb
/-- in a frame of its own the list at D stays -/
theorem Fr.stays {K : PySem.W.Frag} {H : Hp} {μ0 μ : List Addr} {ρ : Rho} {S : Sto} {σ : L2.St} {H' : Hp} {D : Addr} {o : HO} (f : Fr K ⟨H, fun a => a ∈ μ0⟩ μ ρ S σ H') (e : H D = some o) (n : D ∉ μ0) : H' D = some o ∧ D ∉ μ := by
  refine ⟨f.keep D _ e n, fun hm => ?_⟩
  rcases f.own D hm with z | z
  · exact n z
  · have z' : H D = none := z
    rw [e] at z'; cases z'
theorem lc2_up {tg iter : Expr} {ti : TIp} {ws ws1 : List Nat} {g : TGp} {tt : TTp} {ti1 : TIp} {g1 : TGp} {tt1 : TTp} {te : TEp} {vs vs1 : List Nat} {c : FP} {wi : TI} {σ : L2.St} {H : Hp} {Q : VK}
    (hw : ∀ μ ρ S σ H R (Q : It → Hp → Prop), Fr X.K c μ ρ S σ H → ti ρ S R → (∀ items S1, R items S1 → ∀ μ1 H1 J, Pre μ μ1 → Fr X.K c μ1 ρ S1 σ H1 → Ge H H1 → ItIs X.K J items H1 → Q J H1) → wi σ H Q)
    (hv : ∀ i ∈ ws, i ∈ vs) (hv1 : ∀ i ∈ ws1, i ∈ vs1) (h : upN X.K c (tLC2 ti g tt ti1 g1 tt1 te vs vs1) σ H Q) : tLc2 wi (upGE X.K ws g) (upTE X.K tt) (upIE X.K ti1) (upGE X.K ws1 g1) (upTE X.K tt1) (upE X.K te) vs vs1 σ H Q := by
  obtain ⟨μ, ρ, S, R, f, h, q⟩ := h
  refine hw μ ρ S σ H _ _ f h fun items S1 ⟨I, i0, step, done⟩ μ1 H1 J p1 f1 g0 it D hD => ?_
  refine ⟨fun i m H' => m = items.length - i ∧ i ≤ items.length ∧ ∃ μ' S' acc us, Pre μ1 μ' ∧ Ge H1 H' ∧ Fr X.K c μ' ρ S' σ H' ∧ H' D = some (.lst us) ∧ D ∉ μ' ∧ (c.F0 D ∨ c.H0 D = none) ∧ Reps X.K H' acc us ∧ I i acc S',
    ⟨items.length, by simp, Nat.zero_le _, μ1, S1, [], [], .refl _, .new hD, f1.same (same_new hD), upd_same, f1.notIn hD, f1.noH0 hD, rfl, i0⟩, ?_⟩
  rintro i m H' ⟨rfl, hle, μ', S', acc, us, p', g', f', hDu, nD, oD, rr, ii⟩
  by_cases hlt : i < items.length
  · refine .inr ⟨it.go H' g' i hlt, fun H2 => ∃ μ2 S2 acc2 us2, Pre μ1 μ2 ∧ Ge H1 H2 ∧ Fr X.K c μ2 ρ S2 σ H2 ∧ H2 D = some (.lst us2) ∧ D ∉ μ2 ∧ (c.F0 D ∨ c.H0 D = none) ∧ Reps X.K H2 acc2 us2 ∧ I (i + 1) acc2 S2,
      fun H2 hx => ⟨items.length - (i + 1), by omega, rfl, hlt, hx⟩, fun x H2 y => ?_⟩
    have hd : items[i]? = some items[i] := by simp [hlt]
    obtain ⟨rx, same⟩ := it.yld H' g' i _ hd x H2 y
    have f2 := f'.same same
    have hD2 : H2 D = some (.lst us) := same _ _ hDu
    have rr2 : Reps X.K H2 acc us := Reps.mono (.of_same same) _ _ rr
    have g2 : Ge H1 H2 := g'.trans (.of_same same)
    have f2w : Fr X.K c μ' (wipeP ρ vs) S' (wipe σ vs) H2 := f2.slots (wipe_slots f2.env vs)
    have fs := f2w.sub
    refine ⟨_, μ', wipeP ρ vs, S', _, _, fs, rx, step i _ acc S' hd ii, fun ρ3 h3 σ3 f3 off => ⟨wipe_off off hv, _, μ', ρ3, S', _, f3, h3, fun b S4 h4 μ4 H4 p4 f4 g4 => ?_⟩⟩
    obtain ⟨hD4, nD4⟩ := f4.stays hD2 nD
    have rr4 : Reps X.K H4 acc us := Reps.mono g4 _ _ rr2
    cases b with
    | false =>
      have h4' : I (i + 1) acc S4 := h4
      have f5 : Fr X.K c μ4 ρ S4 σ H4 := (f2w.back f4).slots (paired_imp f2.env fun _ _ z => SlotR.mono g4 p4 z)
      exact iteF ⟨μ4, S4, acc, us, p'.trans p4, g2.trans g4, f5, hD4, nD4, oD, rr4, h4'⟩
    | true =>
      -- from here on the frame may change D, too
      refine iteT ⟨_, μ4, ρ3, S4, _, f4, h4, fun its1 S5 ⟨I1, j0, step1, done1⟩ μ5 H5 J1 p5 f5n g5 it1 => ?_⟩
      have hD5 : H5 D = some (.lst us) ∧ D ∉ μ5 := f5n.stays hD2 nD
      have f5 := f5n.wide (Q := fun a => a ∈ μ' ∨ a = D) fun a ha => .inl ha
      refine ⟨fun j k H' => k = its1.length - j ∧ j ≤ its1.length ∧ ∃ μ' S' acc us, Pre μ5 μ' ∧ Ge H5 H' ∧ Fr X.K ⟨H2, fun a => a ∈ _ ∨ a = D⟩ μ' ρ3 S' σ3 H' ∧ H' D = some (.lst us) ∧ D ∉ μ' ∧ Reps X.K H' acc us ∧ I1 j acc S',
        ⟨its1.length, by simp, Nat.zero_le _, μ5, S5, acc, us, .refl _, .refl _, f5, hD5.1, hD5.2, Reps.mono g5 _ _ rr4, j0⟩, ?_⟩
      rintro j k H6 ⟨rfl, hle6, μ6, S6, acc6, us6, p6, g6, f6, hD6, nD6, rr6, jj⟩
      by_cases hlt6 : j < its1.length
      · refine .inr ⟨it1.go H6 g6 j hlt6, fun H' => ∃ μ' S' acc us, Pre μ5 μ' ∧ Ge H5 H' ∧ Fr X.K ⟨H2, fun a => a ∈ _ ∨ a = D⟩ μ' ρ3 S' σ3 H' ∧ H' D = some (.lst us) ∧ D ∉ μ' ∧ Reps X.K H' acc us ∧ I1 (j + 1) acc S',
          fun H' hx => ⟨its1.length - (j + 1), by omega, rfl, hlt6, hx⟩, fun x H7 y => ?_⟩
        have hd6 : its1[j]? = some its1[j] := by simp [hlt6]
        obtain ⟨rx7, same7⟩ := it1.yld H6 g6 j _ hd6 x H7 y
        have f7 := f6.same same7
        have hD7 : H7 D = some (.lst us6) := same7 _ _ hD6
        have rr7 : Reps X.K H7 acc6 us6 := Reps.mono (.of_same same7) _ _ rr6
        have g7 : Ge H5 H7 := g6.trans (.of_same same7)
        have f7w : Fr X.K _ μ6 (wipeP ρ3 vs1) S6 (wipe σ3 vs1) H7 := f7.slots (wipe_slots f7.env vs1)
        refine ⟨_, μ6, wipeP ρ3 vs1, S6, _, _, f7w.sub, rx7, step1 j _ acc6 S6 hd6 jj, fun ρ8 h8 σ8 f8 off8 => ⟨wipe_off off8 hv1, _, μ6, ρ8, S6, _, f8, h8, fun b S9 h9 μ9 H9 p9 f9 g9 => ?_⟩⟩
        obtain ⟨hD9, nD9⟩ := f9.stays hD7 nD6
        have rr9 : Reps X.K H9 acc6 us6 := Reps.mono g9 _ _ rr7
        cases b with
        | false =>
          have h9' : I1 (j + 1) acc6 S9 := h9
          have f10 := (f7w.back f9).slots (paired_imp f7.env fun _ _ z => SlotR.mono g9 p9 z)
          exact iteF ⟨μ9, S9, acc6, us6, p6.trans p9, g7.trans g9, f10, hD9, nD9, rr9, h9'⟩
        | true =>
          refine iteT ⟨_, μ9, ρ8, S9, _, f9, h9, fun y S10 h10 μ10 v10 H10 p10 f10 r10 g10 => ?_⟩
          cases y with
          | cel _ => exact h10.elim
          | d y =>
            obtain ⟨hz, h10⟩ := h10
            obtain ⟨hD10, nD10⟩ := f10.stays hD7 nD6
            have rr10 : Reps X.K H10 acc6 us6 := Reps.mono g10 _ _ rr9
            have f11 := (f7w.back f10).slots (paired_imp f7.env fun _ _ z => SlotR.mono (g9.trans g10) (p9.trans p10) z)
            have g11 : Ge H10 (upd H10 D (.lst (us6 ++ [v10]))) := .put hD10
            refine ⟨us6, hD10, by rw [← rr10.length]; exact hz, μ10, S10, acc6 ++ [y], us6 ++ [v10], p6.trans (p9.trans p10), g7.trans (g9.trans (g10.trans g11)), f11.more hD10 nD10 (.inl (.inr rfl)), upd_same, nD10, Reps.mono g11 _ _ (rr10.append (.one r10)), h10⟩
      · have e : j = its1.length := by omega
        subst e
        have f12 : Fr X.K c μ6 ρ S6 σ H6 := (f2w.backD oD nD6 f6).slots (paired_imp f2.env fun _ _ z => SlotR.mono (g4.trans (g5.trans g6)) (p4.trans (p5.trans p6)) z)
        exact .inl ⟨it1.stop H6 g6, μ6, S6, acc6, us6, p'.trans (p4.trans (p5.trans p6)), g2.trans (g4.trans (g5.trans g6)), f12, hD6, nD6, oD, rr6, done1 acc6 S6 jj⟩
  · have e : i = items.length := by omega
    subst e
    exact .inl ⟨it.stop H' g', q acc S' (done acc S' ii) μ' D us H' (p1.trans p') f' hDu nD oD rr (g0.trans g')⟩
theorem wn_lc2 {elt tg iter tg1 iter1 : Expr} {ifs ifs1 : List Expr} {scope : Scope} {own : List (Str × Nat)} {vs1 : List Nat} {ti ti1 : TIp} {ws ws1 : List Nat} {g g1 : TGp} {tt tt1 : TTp} {te : TEp} (hc : X.calm = true) (hN : X.N.Nodup) (hi : WI X tg iter ti) (ok : BlkOk X.N X.env.scope scope own) (hv : ∀ i ∈ ws, i ∈ own.map (·.2)) (hvs : ∀ i ∈ vs1, i ∈ own.map (·.2)) (hv1 : ∀ i ∈ ws1, i ∈ vs1)
    (hg : ∀ (s : Shared) (H : Hp) (C : Addr) (cl : List (Str × Addr)) (fp : List Addr), WG (X.blk s H scope (compEnvC scope cl C X.env) fp) tg ws g) (ht : ∀ (s : Shared) (H : Hp) (C : Addr) (cl : List (Str × Addr)) (fp : List Addr), WTs (X.blk s H scope (compEnvC scope cl C X.env) fp) ifs tt)
    (hi1 : ∀ (s : Shared) (H : Hp) (C : Addr) (cl : List (Str × Addr)) (fp : List Addr), WI (X.blk s H scope (compEnvC scope cl C X.env) fp) tg1 iter1 ti1)
    (hg1 : ∀ (s : Shared) (H : Hp) (C : Addr) (cl : List (Str × Addr)) (fp : List Addr), WG (X.blk s H scope (compEnvC scope cl C X.env) fp) tg1 ws1 g1) (ht1 : ∀ (s : Shared) (H : Hp) (C : Addr) (cl : List (Str × Addr)) (fp : List Addr), WTs (X.blk s H scope (compEnvC scope cl C X.env) fp) ifs1 tt1)
    (he : ∀ (s : Shared) (H : Hp) (C : Addr) (cl : List (Str × Addr)) (fp : List Addr), WE (X.blk s H scope (compEnvC scope cl C X.env) fp) elt te) (hs : ∀ x, foldedSetIterable iter X.env x = pure x := by intro _; rfl) (hs1 : ∀ env x, foldedSetIterable iter1 env x = pure x := by intro _ _; rfl) :
    WN X (.ListComp elt [⟨tg, iter, ifs, 0⟩, ⟨tg1, iter1, ifs1, 0⟩] scope pos) (tLC2 ti g tt ti1 g1 tt1 te (sndsR own) vs1) := by
  rw [sndsR_eq]
  refine ⟨fun c => ?_⟩
  obtain ⟨wi, hpi, hw⟩ := hi.ex c
  exact pe_w (pe_lc2 (wi := wi) (g := upGE X.K ws g) (tt := upTE X.K tt) (wi1 := upIE X.K ti1) (g1 := upGE X.K ws1 g1) (tt1 := upTE X.K tt1) (te := upE X.K te) hc hN hpi ok hvs (fun s H C cl fp => PG.anyF (hg s H C cl fp)) (fun s H C cl fp => PTs.anyF (ht s H C cl fp)) (fun s H C cl fp => PI.anyF (hi1 s H C cl fp)) (fun s H C cl fp => PG.anyF (hg1 s H C cl fp)) (fun s H C cl fp => PTs.anyF (ht1 s H C cl fp)) (fun s H C cl fp => PE.anyF (he s H C cl fp)) hs hs1) fun σ H Q h => lc2_up (tg := tg) (iter := iter) hw hv hv1 h
/-- name = [.. for .. for ..] on one line, kept unlocked; locked -/
theorem ws_setLC2 {i : Nat} {y : Str} {py spos : Pos} {elt tg iter tg1 iter1 : Expr} {ifs ifs1 : List Expr} {scope : Scope} {own : List (Str × Nat)} {vs1 : List Nat} {ti ti1 : TIp} {ws ws1 : List Nat} {g g1 : TGp} {tt tt1 : TTp} {te : TEp} (hc : X.calm = true) (hN : X.N.Nodup) (hy : X.N[i]? = some y) (hyl : X.env.scope.names.lookup y = some .local)
    (hsw : swapsWith (.ListComp elt [⟨tg, iter, ifs, 0⟩, ⟨tg1, iter1, ifs1, 0⟩] scope pos) (some (.Name y py)) spos.line X.env = pure true) (hi : WI X tg iter ti) (ok : BlkOk X.N X.env.scope scope own) (hv : ∀ i ∈ ws, i ∈ own.map (·.2)) (hvs : ∀ i ∈ vs1, i ∈ own.map (·.2)) (hv1 : ∀ i ∈ ws1, i ∈ vs1)
    (hg : ∀ (s : Shared) (H : Hp) (C : Addr) (cl : List (Str × Addr)) (fp : List Addr), WG (X.blk s H scope (compEnvC scope cl C X.env) fp) tg ws g) (ht : ∀ (s : Shared) (H : Hp) (C : Addr) (cl : List (Str × Addr)) (fp : List Addr), WTs (X.blk s H scope (compEnvC scope cl C X.env) fp) ifs tt)
    (hi1 : ∀ (s : Shared) (H : Hp) (C : Addr) (cl : List (Str × Addr)) (fp : List Addr), WI (X.blk s H scope (compEnvC scope cl C X.env) fp) tg1 iter1 ti1)
    (hg1 : ∀ (s : Shared) (H : Hp) (C : Addr) (cl : List (Str × Addr)) (fp : List Addr), WG (X.blk s H scope (compEnvC scope cl C X.env) fp) tg1 ws1 g1) (ht1 : ∀ (s : Shared) (H : Hp) (C : Addr) (cl : List (Str × Addr)) (fp : List Addr), WTs (X.blk s H scope (compEnvC scope cl C X.env) fp) ifs1 tt1)
    (he : ∀ (s : Shared) (H : Hp) (C : Addr) (cl : List (Str × Addr)) (fp : List Addr), WE (X.blk s H scope (compEnvC scope cl C X.env) fp) elt te) (hs : ∀ x, foldedSetIterable iter X.env x = pure x := by intro _; rfl) (hs1 : ∀ env x, foldedSetIterable iter1 env x = pure x := by intro _ _; rfl) :
    WS X (.Assign [.Name y py] (.ListComp elt [⟨tg, iter, ifs, 0⟩, ⟨tg1, iter1, ifs1, 0⟩] scope pos) spos) (tStF i (tLC2 ti g tt ti1 g1 tt1 te (sndsR own) vs1)) := by
  rw [sndsR_eq]
  refine ⟨fun c => ?_⟩
  obtain ⟨wi, hpi, hw⟩ := hi.ex c
  exact ps_w (ps_lock (ps_setLc2 (wi := wi) (g := upGE X.K ws g) (tt := upTE X.K tt) (wi1 := upIE X.K ti1) (g1 := upGE X.K ws1 g1) (tt1 := upTE X.K tt1) (te := upE X.K te) hc hN hy hyl hsw hpi ok hvs (fun s H C cl fp => PG.anyF (hg s H C cl fp)) (fun s H C cl fp => PTs.anyF (ht s H C cl fp)) (fun s H C cl fp => PI.anyF (hi1 s H C cl fp)) (fun s H C cl fp => PG.anyF (hg1 s H C cl fp)) (fun s H C cl fp => PTs.anyF (ht1 s H C cl fp)) (fun s H C cl fp => PE.anyF (he s H C cl fp)) hs hs1)) fun D σ H ⟨μ, ρ, S, E, f, h, q⟩ => lc2_up (tg := tg) (iter := iter) hw hv hv1 (stF_up f h q)
/-- xs += a new list -/
@[reducible] def tAuX (i : Nat) (ta : TNp) : TSp := fun E ρ S => match sltAt ρ i with
  | some (.cel j) => ta ρ S fun zs S1 => match cellAt S1 j with
    | some (.lst xs) => xs.length + zs.length ≤ sizeLine ∧ E.nx (setR ρ i (some (.cel j))) (setS S1 j (.lst (xs ++ zs)))
    | _ => False
  | _ => False
theorem ws_augExt {i : Nat} {x : Str} {e : Expr} {ta : TNp} {pos' : Pos} (hN : X.N.Nodup) (hi : X.N[i]? = some x) (hx : Loc X.env.scope x) (he : WN X e ta)
    (hf : X.fn x = true ∨ X.env.scope.names.lookup x = some .local := by first | exact .inl rfl | exact .inr rfl | assumption) : WS X (.AugAssign (.Name x pos') .Add e pos) (tAuX i ta) := by
  refine ⟨fun c => ps_w (L2.ps_aug hN hi hx (he.pe c) iop_ext hf) fun D σ H ⟨μ, ρ, S, E, f, h, q⟩ => ?_⟩
  unfold tAuX at h
  split at h
  · rename_i j e0
    obtain ⟨v1, hv, a, ha, rfl⟩ := f.slot (sltAt_get e0)
    refine ⟨_, hv, μ, ρ, S, _, f, h, fun zs S2 h2 μ2 p2' ws H2 p2 f2 hp2 np no r2 g2 => ?_⟩
    rw [cellAt_get] at h2
    split at h2
    · rename_i ys e4
      obtain ⟨hz, h2⟩ := h2
      obtain ⟨a', ha', us, e5, rr2⟩ := f2.at e4
      have ha3 := p2.get ha
      rw [ha3] at ha'; cases ha'
      obtain ⟨f4, g4⟩ := f2.write (o := .lst (us ++ ws)) (y := .lst (ys ++ zs)) e4 ha3 ⟨_, upd_same, Reps.mono (.put e5) _ _ (rr2.append r2)⟩
      refine ⟨a, p2', us, ws, rfl, rfl, e5, hp2, by rw [← rr2.length, ← r2.length]; exact hz, ?_⟩
      exact q.nx _ _ h2 μ2 _ _ p2 (f4.set (x := .cel j) ⟨a, ha3, rfl⟩) (g2.trans g4)
    · exact h2.elim
  · exact h.elim
end
end Pu

set_option autoImplicit false
namespace Pu
open PySem PySem.Spec PyProof.Rows L2
/-! ### ledgers: an instance with a dict of items and a coming number -/
structure LCls (K : PySem.W.Frag) (C : Addr) : Prop where
  cl : Cls K C
  ns : PySem.W.nsIn K mainGlobals "Ledger" = some (some (.ref C))
  nP : NoAttr K C "present"
  nC : NoAttr K C "coming"
abbrev lfs (d : Addr) (n : Int) : List (Str × V) := [(("present" : Str), V.ref d), (("coming" : Str), V.int n)]
theorem ne_pc : ¬ (("present" : Str) = "coming") := by decide +kernel
theorem lfs_eq (d : Addr) (n : Int) : putF ("coming" : Str) (V.int n) (putF ("present" : Str) (V.ref d) []) = lfs d n := by
  show (if ("present" : Str) = "coming" then _ else (("present" : Str), V.ref d) :: putF "coming" (V.int n) []) = _
  rw [if_neg ne_pc]; rfl
theorem lfs_p (d : Addr) (n : Int) : (lfs d n).lookup ("present" : Str) = some (V.ref d) := by
  rw [← lfs_eq, lookup_putF, if_neg ne_pc, lookup_putF, if_pos rfl]
theorem lfs_c (d : Addr) (n : Int) : (lfs d n).lookup ("coming" : Str) = some (V.int n) := by
  rw [← lfs_eq, lookup_putF, if_pos rfl]
theorem lfs_no (d : Addr) (n : Int) {m : Str} (h1 : ¬ m = "coming") (h2 : ¬ m = "present") : (lfs d n).lookup m = none := by
  rw [← lfs_eq, lookup_putF, if_neg h1, lookup_putF, if_neg h2]; rfl
theorem lfs_put (d : Addr) (n m : Int) : putF ("coming" : Str) (V.int m) (lfs d n) = lfs d m := by
  show (if ("present" : Str) = "coming" then _ else (("present" : Str), V.ref d) :: (if ("coming" : Str) = "coming" then [(("coming" : Str), V.int m)] else _)) = _
  rw [if_neg ne_pc, if_pos rfl]
theorem lfs_putP (d e : Addr) (n : Int) : putF ("present" : Str) (V.ref e) (lfs d n) = lfs e n := by
  show (if ("present" : Str) = "present" then (("present" : Str), V.ref e) :: [(("coming" : Str), V.int n)] else _) = _
  rw [if_pos rfl]
/-! dicts of items -/
def valL (its : List (Int × PyData)) (k : Int) : Option PyData := (its.find? fun p => decide (p.1 = k)).map (·.2)
def hasL (its : List (Int × PyData)) (k : Int) : Bool := its.any fun p => decide (p.1 = k)
def putL (its : List (Int × PyData)) (k : Int) (y : PyData) : List (Int × PyData) := if hasL its k = true then its.map (fun p => if p.1 = k then (p.1, y) else p) else its ++ [(k, y)]
def dropL (its : List (Int × PyData)) (k : Int) : List (Int × PyData) := its.filter fun p => decide (p.1 ≠ k)
abbrev KvR (K : PySem.W.Frag) (H : Hp) : List (Int × PyData) → List (Key × V) → Prop := Paired fun (p : Int × PyData) (q : Key × V) => q.1 = Sum.inl p.1 ∧ Rep K H p.2 q.2
section
variable {K : PySem.W.Frag} {H H' : Hp}
theorem KvR.mono (g : Ge H H') {its : List (Int × PyData)} {kvs : List (Key × V)} (h : KvR K H its kvs) : KvR K H' its kvs := by
  induction h with
  | nil => exact .nil
  | cons q t ih => exact .cons ⟨q.1, Rep.mono g _ _ q.2⟩ ih
theorem inl_iff {a b : Int} : ((Sum.inl a : Key) = Sum.inl b) ↔ a = b := ⟨fun h => Sum.inl.inj h, fun h => by rw [h]⟩
theorem KvR.has {k : Int} : ∀ {its : List (Int × PyData)} {kvs : List (Key × V)}, KvR K H its kvs → (kvs.any fun kv => decide (kv.1 = (Sum.inl k : Key))) = hasL its k
  | _, _, .nil => rfl
  | _, _, .cons (a := p) (b := q) h t => by
    have ih := KvR.has (k := k) t
    unfold hasL at *
    rw [List.any_cons, List.any_cons, ih, h.1]
    congr 1
    simp only [inl_iff]
theorem KvR.val {k : Int} : ∀ {its : List (Int × PyData)} {kvs : List (Key × V)}, KvR K H its kvs → ∀ {y : PyData}, valL its k = some y → ∃ v, valV kvs (Sum.inl k : Key) = some v ∧ Rep K H y v
  | _, _, .nil, y, h => by simp [valL] at h
  | _, _, .cons (a := p) (b := q) h t, y, e => by
    unfold valL at e
    rw [List.find?_cons] at e
    by_cases hk : p.1 = k
    · rw [decide_eq_true hk] at e
      simp only [Option.map_some, Option.some.injEq] at e
      exact ⟨q.2, valV_pos (by rw [h.1, hk]), by rw [← e]; exact h.2⟩
    · rw [decide_eq_false hk] at e
      obtain ⟨v, e1, e2⟩ := KvR.val (k := k) t (y := y) e
      exact ⟨v, by rw [valV_neg (by rw [h.1]; exact fun z => hk (inl_iff.mp z)), e1], e2⟩
theorem KvR.mapPut {k : Int} {y : PyData} {v : V} (r : Rep K H y v) : ∀ {its : List (Int × PyData)} {kvs : List (Key × V)}, KvR K H its kvs →
    KvR K H (its.map fun p => if p.1 = k then (p.1, y) else p) (kvs.map fun kv => if kv.1 = (Sum.inl k : Key) then (kv.1, v) else kv)
  | _, _, .nil => .nil
  | _, _, .cons (a := p) (b := q) h t => by
    rw [List.map_cons, List.map_cons]
    refine .cons ?_ (KvR.mapPut r t)
    by_cases hk : p.1 = k
    · rw [if_pos hk, if_pos (by rw [h.1, hk])]; exact ⟨h.1, r⟩
    · rw [if_neg hk, if_neg (by rw [h.1]; exact fun z => hk (inl_iff.mp z))]; exact h
theorem KvR.put {k : Int} {y : PyData} {v : V} {its : List (Int × PyData)} {kvs : List (Key × V)} (h : KvR K H its kvs) (r : Rep K H y v) : KvR K H (putL its k y) (putK kvs (Sum.inl k) v) := by
  unfold putL putK
  rw [h.has]
  split
  · exact h.mapPut r
  · exact h.snoc ⟨rfl, r⟩
theorem KvR.drop {k : Int} : ∀ {its : List (Int × PyData)} {kvs : List (Key × V)}, KvR K H its kvs → KvR K H (dropL its k) (dropK kvs (Sum.inl k))
  | _, _, .nil => .nil
  | _, _, .cons (a := p) (b := q) h t => by
    have ih := KvR.drop (k := k) t
    unfold dropL dropK at *
    rw [List.filter_cons, List.filter_cons]
    by_cases hk : p.1 = k
    · rw [if_neg (by simp [hk]), if_neg (by simp [h.1, hk])]; exact ih
    · rw [if_pos (by simp [hk]), if_pos (by simp [h.1, hk])]; exact .cons h ih
end
theorem hasL_iff {its : List (Int × PyData)} {k : Int} : hasL its k = true ↔ k ∈ its.map (·.1) := by
  unfold hasL
  rw [List.any_eq_true, List.mem_map]
  constructor
  · rintro ⟨p, hp, e⟩; exact ⟨p, hp, of_decide_eq_true e⟩
  · rintro ⟨p, hp, e⟩; exact ⟨p, hp, decide_eq_true e⟩
theorem putL_keys (its : List (Int × PyData)) (k : Int) (y : PyData) : (putL its k y).map (·.1) = if hasL its k = true then its.map (·.1) else its.map (·.1) ++ [k] := by
  unfold putL
  split
  · rw [List.map_map]
    refine List.map_congr_left fun p _ => ?_
    show (if p.1 = k then (p.1, y) else p).1 = p.1
    split <;> rfl
  · rw [List.map_append]; rfl
theorem putL_nd {its : List (Int × PyData)} {k : Int} {y : PyData} (h : (its.map (·.1)).Nodup) : ((putL its k y).map (·.1)).Nodup := by
  rw [putL_keys]
  split
  · exact h
  · rename_i hk
    rw [List.nodup_append]
    refine ⟨h, by simp, fun a ha b hb z => hk (hasL_iff.mpr ?_)⟩
    rw [List.mem_singleton] at hb
    subst hb; subst z; exact ha
theorem dropL_nd {its : List (Int × PyData)} {k : Int} (h : (its.map (·.1)).Nodup) : ((dropL its k).map (·.1)).Nodup :=
  h.sublist (List.Sublist.map _ List.filter_sublist)
/-! ### cells that are changed -/
section
variable {K : PySem.W.Frag} {c : FP} {μ : List Addr} {ρ : Rho} {S : Sto} {σ : L2.St} {H : Hp}
theorem Ge.putO {p : Addr} {o o' : HO} (h : H p = some o') (h1 : ∀ xs, o' ≠ .tup xs) (h2 : ∀ a u, o' ≠ .frz a u) : Ge H (upd H p o) :=
  ⟨fun b ys e => by rw [upd_ne (fun z => by rw [z, h] at e; exact h1 _ (Option.some.inj e))]; exact e, fun b a u e => by rw [upd_ne (fun z => by rw [z, h] at e; exact h2 _ _ (Option.some.inj e))]; exact e⟩
theorem Fr.writeO {i : Nat} {a : Addr} {o o' : HO} {y : Cell} (f : Fr K c μ ρ S σ H) (ha : μ[i]? = some a) (h : H a = some o') (h1 : ∀ xs, o' ≠ .tup xs) (h2 : ∀ a u, o' ≠ .frz a u) (r : Ge H (upd H a o) → CellR K (upd H a o) y a) :
    Fr K c μ ρ (setS S i y) σ (upd H a o) ∧ Ge H (upd H a o) := by
  have g : Ge H (upd H a o) := .putO h h1 h2
  exact ⟨f.put ha (fun b ob e hb => by rw [upd_ne hb]; exact e) g (r g), g⟩
end
section
variable {X : Cx} {C : Addr} {e o i : Expr} {te to ti ta tb : TEp} {pos pos' apos : Pos}
/-! ### e.present, e.coming -/
@[reducible] def tPres (te : TEp) : TEp := fun ρ S R => te ρ S fun x S1 => match x with
  | .cel i => match cellAt S1 i, cellAt S1 (i + 1) with
    | some (.led d _), some (.dic d' _) => d = d' ∧ R (.cel (i + 1)) S1
    | _, _ => False
  | _ => False
theorem w_pres (L : LCls X.K C) (he : WE X e te) (hb : attributeBase e "present" X.env (eval e X.env) = eval e X.env := by rfl) : WE X (.Attribute e "present" pos) (tPres te) := by
  refine ⟨fun c => pe_w (pe_fld (he.pe c) hb) fun σ H Q ⟨μ, ρ, S, R, f, h, q⟩ => ?_⟩
  refine ⟨μ, ρ, S, _, f, h, fun x S1 h1 μ1 v1 H1 p1 f1 r1 g1 => ?_⟩
  split at h1
  · rename_i i
    obtain ⟨a, ha, rfl⟩ := r1
    split at h1
    · rename_i d n d' its e1 e2
      obtain ⟨rfl, hR⟩ := h1
      rw [cellAt_get] at e1 e2
      obtain ⟨a', ha', C', dx, hH, ns⟩ := f1.at e1
      rw [ha] at ha'; cases ha'
      obtain ⟨b, hb, e3, _⟩ := f1.at e2
      subst e3
      rw [L.ns] at ns
      cases ns
      exact ⟨a, C, dx, _, _, rfl, hH, L.cl, L.nP, lfs_p _ _, q _ S1 hR μ1 _ H1 p1 f1 ⟨_, hb, rfl⟩ g1⟩
    · exact h1.elim
  · exact h1.elim
@[reducible] def tCom (te : TEp) : TEp := fun ρ S R => te ρ S fun x S1 => match x with
  | .cel i => match cellAt S1 i with
    | some (.led _ n) => R (.d (.int n)) S1
    | _ => False
  | _ => False
theorem w_com (L : LCls X.K C) (he : WE X e te) (hb : attributeBase e "coming" X.env (eval e X.env) = eval e X.env := by rfl) : WE X (.Attribute e "coming" pos) (tCom te) := by
  refine ⟨fun c => pe_w (pe_fld (he.pe c) hb) fun σ H Q ⟨μ, ρ, S, R, f, h, q⟩ => ?_⟩
  refine ⟨μ, ρ, S, _, f, h, fun x S1 h1 μ1 v1 H1 p1 f1 r1 g1 => ?_⟩
  split at h1
  · rename_i i
    obtain ⟨a, ha, rfl⟩ := r1
    split at h1
    · rename_i d n e1
      rw [cellAt_get] at e1
      obtain ⟨a', ha', C', dx, hH, ns⟩ := f1.at e1
      rw [ha] at ha'; cases ha'
      rw [L.ns] at ns
      cases ns
      exact ⟨a, C, dx, _, _, rfl, hH, L.cl, L.nC, lfs_c _ _, q (.d (.int n)) S1 h1 μ1 _ H1 p1 f1 rfl g1⟩
    · exact h1.elim
  · exact h1.elim
/-- e.coming += value -/
@[reducible] def tComAdd (to te : TEp) : TSp := fun E ρ S => to ρ S fun x S1 => match x with
  | .cel i => match cellAt S1 i with
    | some (.led d n) => te ρ S1 fun y S2 => match y, cellAt S2 i with
      | .d (.int k), some (.led d' m) => d' = d ∧ m = n ∧ E.nx ρ (setS S2 i (.led d (n + k)))
      | _, _ => False
    | _ => False
  | _ => False
theorem ws_comAdd (L : LCls X.K C) (ho : WE X o to) (he : WE X e te) : WS X (.AugAssign (.Attribute o "coming" apos) .Add e pos) (tComAdd to te) := by
  refine ⟨fun c => ps_w (ps_fldaug (ho.pe c) (he.pe c) in_add) fun D σ H ⟨μ, ρ, S, E, f, h, q⟩ => ?_⟩
  refine ⟨μ, ρ, S, _, f, h, fun x S1 h1 μ1 v1 H1 p1 f1 r1 g1 => ?_⟩
  split at h1
  · rename_i i
    obtain ⟨a, ha, rfl⟩ := r1
    split at h1
    · rename_i d n e1
      rw [cellAt_get] at e1
      obtain ⟨a', ha', C', dx, hH, ns⟩ := f1.at e1
      rw [ha] at ha'; cases ha'
      rw [L.ns] at ns
      cases ns
      refine ⟨a, C, dx, _, _, rfl, hH, L.cl, L.nC, lfs_c _ _, μ1, ρ, S1, _, f1, h1, fun y S2 h2 μ2 v2 H2 p2 f2 r2 g2 => ?_⟩
      split at h2
      · rename_i k d' m e2
        obtain ⟨rfl, rfl, h2⟩ := h2
        rw [cellAt_get] at e2
        obtain ⟨a'', ha'', C'', dx', hH', ns'⟩ := f2.at e2
        have ha2 := p2.get ha
        rw [ha2] at ha''; cases ha''
        rw [L.ns] at ns'
        cases ns'
        have r2' : v2 = V.int k := r2
        subst r2'
        obtain ⟨f3, g3⟩ := f2.writeO (o := .ins C dx' (putF "coming" (.int (m + k)) (lfs d' m))) (y := .led d' (m + k)) ha2 hH' (fun _ => by simp) (fun _ _ => by simp) fun g => ⟨C, dx', by rw [upd_same, lfs_put], L.ns⟩
        exact ⟨_, _, rfl, rfl, dx', _, hH', by show 2 < 1000; decide, q.nx _ _ h2 μ2 σ _ (p1.trans p2) f3 (g1.trans (g2.trans g3))⟩
      · exact h2.elim
    · exact h1.elim
  · exact h1.elim
/-! ### d[k] = y, d.pop(k), k not in d, len(d) -/
@[reducible] def tDPt (to ti te : TEp) : TSp := fun E ρ S => te ρ S fun v S1 => to ρ S1 fun o S2 => ti ρ S2 fun i S3 => match o, i, v with
  | .cel j, .d (.int k), .d y => match cellAt S3 j with
    | some (.dic d its) => its.length < 1000 ∧ E.nx ρ (setS S3 j (.dic d (putL its k y)))
    | _ => False
  | _, _, _ => False
theorem ws_dput (hr : ∃ k, Room k X.A) (ho : WE X o to) (hi : WE X i ti) (he : WE X e te) (hs : swapsWith e (some (.Subscript o i pos')) pos.line X.env = pure false := by rfl) : WS X (.Assign [.Subscript o i pos'] e pos) (tDPt to ti te) := by
  obtain ⟨k, hr⟩ := hr
  refine ⟨fun c => ps_w (ps_dput (hu_of hr) (ho.pe c) (hi.pe c) (he.pe c) hs) fun D σ H ⟨μ, ρ, S, E, f, h, q⟩ => ?_⟩
  refine ⟨μ, ρ, S, _, f, h, fun v S1 h1 μ1 v1 H1 p1 f1 r1 g1 => ⟨μ1, ρ, S1, _, f1, h1, fun ov S2 h2 μ2 v2 H2 p2 f2 r2 g2 => ⟨μ2, ρ, S2, _, f2, h2, fun iv S3 h3 μ3 v3 H3 p3 f3 r3 g3 => ?_⟩⟩⟩
  split at h3
  · rename_i j k y
    obtain ⟨a, ha, rfl⟩ := r2
    split at h3
    · rename_i d its e1
      obtain ⟨hl, h3⟩ := h3
      rw [cellAt_get] at e1
      obtain ⟨a', ha', ed, kvs, e3, rr, nd⟩ := f3.at e1
      have ha3 := p3.get ha
      rw [ha3] at ha'; cases ha'
      subst ed
      have r1' : Rep X.K H3 y v1 := Rep.mono (g2.trans g3) _ _ r1
      have r3' : v3 = V.int k := r3
      subst r3'
      obtain ⟨f4, g4⟩ := f3.writeO (o := .dK (putK kvs (Sum.inl k) v1)) (y := .dic a (putL its k y)) ha3 e3 (fun _ => by simp) (fun _ _ => by simp) fun g => ⟨rfl, _, upd_same, KvR.mono g (KvR.put rr r1'), putL_nd nd⟩
      refine ⟨a, _, rfl, DPut.k (k := Sum.inl k) e3 ?_, q.nx _ _ h3 μ3 σ _ (p1.trans (p2.trans p3)) f4 (g1.trans (g2.trans (g3.trans g4)))⟩
      rw [← paired_len rr]; exact small1000 (Nat.le_of_lt hl)
    · exact h3.elim
  · exact h3.elim
@[reducible] def tPop1 (to ti : TEp) : TEp := fun ρ S R => to ρ S fun o S1 => match o with
  | .cel j => match cellAt S1 j with
    | some (.dic _ _) => ti ρ S1 fun i S2 => match i, cellAt S2 j with
      | .d (.int k), some (.dic d its) => onS (valL its k) fun y => R (.d y) (setS S2 j (.dic d (dropL its k)))
      | _, _ => False
    | _ => False
  | _ => False
theorem w_dpop (ho : WE X o to) (hi : WE X i ti) (m : M1 X o "pop" apos i pos := by exact ⟨by rfl, by rfl, by rfl, by rfl⟩) : WE X (.Call (.Attribute o "pop" apos) [i] [] pos) (tPop1 to ti) := by
  refine ⟨fun c => pe_w (pe_dpop1 (ho.pe c) (hi.pe c) m) fun σ H Q ⟨μ, ρ, S, R, f, h, q⟩ => ?_⟩
  refine ⟨μ, ρ, S, _, f, h, fun x S1 h1 μ1 v1 H1 p1 f1 r1 g1 => ?_⟩
  split at h1
  · rename_i j
    obtain ⟨a, ha, rfl⟩ := r1
    split at h1
    · rename_i d its e1
      rw [cellAt_get] at e1
      obtain ⟨a', ha', ed, kvs, e3, rr, nd⟩ := f1.at e1
      rw [ha] at ha'; cases ha'
      refine ⟨a, rfl, .inl ⟨kvs, .inl e3⟩, μ1, ρ, S1, _, f1, h1, fun iv S2 h2 μ2 v2 H2 p2 f2 r2 g2 => ?_⟩
      split at h2
      · rename_i k d' its' e2
        rw [cellAt_get] at e2
        obtain ⟨a'', ha'', ed', kvs', e4, rr', nd'⟩ := f2.at e2
        have ha2 := p2.get ha
        rw [ha2] at ha''; cases ha''
        have r2' : v2 = V.int k := r2
        subst r2'
        subst ed'
        unfold onS at h2
        obtain ⟨y, ey, hR⟩ := h2
        obtain ⟨v, ev, rv⟩ := KvR.val rr' ey
        obtain ⟨f3, g3⟩ := f2.writeO (o := .dK (dropK kvs' (Sum.inl k))) (y := .dic a (dropL its' k)) ha2 e4 (fun _ => by simp) (fun _ _ => by simp) fun g => ⟨rfl, _, upd_same, KvR.mono g (KvR.drop rr'), dropL_nd nd'⟩
        exact ⟨kvs', Sum.inl k, v, e4, rfl, ev, q (.d y) _ hR μ2 v _ (p1.trans p2) f3 (Rep.mono g3 _ _ rv) (g1.trans (g2.trans g3))⟩
      · exact h2.elim
    · exact h1.elim
  · exact h1.elim
theorem hasL_val {its : List (Int × PyData)} {k : Int} : (valL its k).isSome = hasL its k := by
  unfold valL hasL
  induction its with
  | nil => rfl
  | cons p r ih =>
    rw [List.find?_cons, List.any_cons]
    cases decide (p.1 = k)
    · simpa using ih
    · rfl
theorem KvR.some {K : PySem.W.Frag} {H : Hp} {its : List (Int × PyData)} {kvs : List (Key × V)} (r : KvR K H its kvs) (k : Int) : (valV kvs (Sum.inl k : Key)).isSome = hasL its k := by
  rw [← valV_any, r.has]
@[reducible] def tInD (f : Bool → Bool) (ta tb : TEp) : TTp := fun ρ S R => ta ρ S fun x S1 => tb ρ S1 fun y S2 => match x, y with
  | .d (.int k), .cel j => match cellAt S2 j with
    | some (.dic _ its) => R (f (hasL its k)) S2
    | _ => False
  | _, _ => False
theorem wt_notInD (hr : ∃ k, Room k X.A) (ha : WE X i ti) (hb : WE X o to) (hm : behindInMarks .NotIn o = false := by rfl) : WT X (.Compare i [.NotIn] [o] pos) (tInD bnot ti to) := by
  obtain ⟨k, hr⟩ := hr
  refine ⟨fun c => pt_w (pt_cmp (pc_dnotin (hu_of hr) (ha.pe c) (hb.pe c)) hm) fun σ H Q ⟨μ, ρ, S, R, f, h, q⟩ => ?_⟩
  refine ⟨μ, ρ, S, _, f, h, fun iv S1 h1 μ1 v1 H1 p1 f1 r1 g1 => ⟨μ1, ρ, S1, _, f1, h1, fun ov S2 h2 μ2 v2 H2 p2 f2 r2 g2 => ?_⟩⟩
  split at h2
  · rename_i k j
    obtain ⟨a, ha, rfl⟩ := r2
    split at h2
    · rename_i d its e1
      rw [cellAt_get] at e1
      obtain ⟨a', ha', ed, kvs, e3, rr, nd⟩ := f2.at e1
      rw [ha] at ha'; cases ha'
      have r1' : v1 = V.int k := r1
      subst r1'
      refine ⟨a, _, rfl, DGet.k (k := Sum.inl k) e3, ?_⟩
      rw [KvR.some rr k]
      exact ⟨_, rfl, q _ S2 (by rw [← bnot_eq]; exact h2) μ2 H2 (p1.trans p2) f2 (g1.trans g2)⟩
    · exact h2.elim
  · exact h2.elim
end

/-! ### defs and ledgers: what is handed in, what comes out -/
inductive LV where
  | d (x : PyData) | l (xs : List PyData) | L (d : Addr) (its : List (Int × PyData)) (n : Int)
@[reducible] def pvL : Nat → List LV → List PV
  | _, [] => []
  | i, .d x :: r => .d x :: pvL i r
  | i, .l _ :: r => .cel i :: pvL i.succ r
  | i, .L _ _ _ :: r => .cel i :: pvL i.succ.succ r
@[reducible] def stL : List LV → Sto
  | [] => []
  | .d _ :: r => stL r
  | .l xs :: r => .lst xs :: stL r
  | .L d its n :: r => .led d n :: .dic d its :: stL r
@[reducible] def lvsOf (S : Sto) : List PV → Option (List LV)
  | [] => some []
  | .d x :: r => match lvsOf S r with
    | some ls => some (.d x :: ls)
    | none => none
  | .cel i :: r => match cellAt S i, lvsOf S r with
    | some (.lst xs), some ls => some (.l xs :: ls)
    | some (.frz xs), some ls => some (.d (.list xs) :: ls)
    | some (.led d n), some ls => match cellAt S i.succ with
      | some (.dic _ its) => some (.L d its n :: ls)
      | _ => none
    | _, _ => none
@[reducible] def lnk (S : Sto) : List PV → Prop → Prop
  | [], P => P
  | .d _ :: r, P => lnk S r P
  | .cel i :: r, P => match cellAt S i with
    | some (.led d _) => match cellAt S i.succ with
      | some (.dic d' _) => d = d' ∧ lnk S r P
      | _ => False
    | _ => lnk S r P
@[reducible] def idxL : List PV → List LV → List Nat
  | .cel i :: r, .l _ :: ls => i :: idxL r ls
  | .cel i :: r, .L _ _ _ :: ls => i :: i.succ :: idxL r ls
  | _ :: r, .d _ :: ls => idxL r ls
  | _, _ => []
@[reducible] def scat : Sto → List PV → List LV → List LV → Option Sto
  | S, [], [], [] => some S
  | S, _ :: r, .d _ :: ls, .d _ :: ls' => scat S r ls ls'
  | S, .cel i :: r, .l _ :: ls, .l xs :: ls' => scat (setS S i (.lst xs)) r ls ls'
  | S, .cel i :: r, .L _ _ _ :: ls, .L d its n :: ls' => scat (setS (setS S i (.led d n)) i.succ (.dic d its)) r ls ls'
  | _, _, _, _ => none
@[reducible] noncomputable def eqN (a b : Nat) : Bool := Nat.rec (motive := fun _ => Nat → Bool) (fun b => Nat.rec (motive := fun _ => Bool) true (fun _ _ => false) b) (fun _ ih b => Nat.rec (motive := fun _ => Bool) false (fun b' _ => ih b') b) a b
@[reducible] noncomputable def inN (i : Nat) : List Nat → Bool
  | [] => false
  | j :: r => match eqN i j with
    | true => true
    | false => inN i r
@[reducible] noncomputable def frI : List Nat → Bool
  | [] => true
  | i :: r => match inN i r with
    | true => false
    | false => frI r
theorem eqN_dec : ∀ a b : Nat, eqN a b = decide (a = b)
  | 0, 0 => by rw [decide_eq_true rfl]; rfl
  | 0, b + 1 => by rw [decide_eq_false (by omega)]; rfl
  | a + 1, 0 => by rw [decide_eq_false (by omega)]; rfl
  | a + 1, b + 1 => by
    show eqN a b = _
    rw [eqN_dec a b]
    by_cases h : a = b
    · rw [decide_eq_true h, decide_eq_true (by omega)]
    · rw [decide_eq_false h, decide_eq_false (by omega)]
theorem inN_iff {i : Nat} : ∀ {r : List Nat}, inN i r = false → i ∉ r
  | [], _ => by simp
  | j :: r, h => by
    rw [inN, eqN_dec] at h
    by_cases e : i = j
    · simp [e] at h
    · simp only [e, decide_false] at h
      simp [e, inN_iff h]
theorem frI_nd : ∀ {r : List Nat}, frI r = true → r.Nodup
  | [], _ => List.nodup_nil
  | i :: r, h => by
    rw [frI] at h
    cases e : inN i r with
    | true => rw [e] at h; cases h
    | false =>
      rw [e] at h
      exact List.nodup_cons.mpr ⟨inN_iff e, frI_nd h⟩
section
variable {K : PySem.W.Frag} {c : FP} {μ1 : List Addr} {ρ : Rho} {S1 : Sto} {σ : L2.St} {H1 H' : Hp}
theorem pack (f1 : Fr K c μ1 ρ S1 σ H1) : ∀ {pvs : List PV} {vs : List V} {lvs : List LV} {P : Prop}, Paired (RepP K H1 μ1) pvs vs → lvsOf S1 pvs = some lvs → lnk S1 pvs P →
    P ∧ ∃ μ0, Paired (fun i a => μ1[i]? = some a) (idxL pvs lvs) μ0 ∧ Paired (CellR K H1) (stL lvs) μ0 ∧ ∀ pre : List Addr, Paired (RepP K H1 (pre ++ μ0)) (pvL pre.length lvs) vs
  | _, _, lvs, P, .nil, e, h => by
    cases e
    exact ⟨h, [], .nil, .nil, fun _ => .nil⟩
  | _, _, lvs, P, .cons (a := .d x) r t, e, h => by
    rw [lvsOf] at e
    split at e
    · rename_i ls e1
      cases e
      obtain ⟨hP, μ0, a1, a2, a3⟩ := pack f1 t e1 h
      exact ⟨hP, μ0, a1, a2, fun pre => .cons r (a3 pre)⟩
    · cases e
  | _, _, lvs, P, .cons (a := .cel i) r t, e, h => by
    obtain ⟨a, ha, rfl⟩ := r
    rw [lvsOf] at e
    unfold lnk at h
    split at e
    · rename_i xs ls e1 e2
      cases e
      rw [e1] at h
      obtain ⟨hP, μ0, a1, a2, a3⟩ := pack f1 t e2 h
      rw [cellAt_get] at e1
      obtain ⟨a', ha', cr⟩ := f1.at e1
      rw [ha] at ha'; cases ha'
      refine ⟨hP, a :: μ0, .cons ha a1, .cons cr a2, fun pre => .cons ⟨a, by simp, rfl⟩ ?_⟩
      have := a3 (pre ++ [a])
      rwa [List.append_assoc, List.length_append] at this
    · rename_i xs ls e1 e2
      cases e
      rw [e1] at h
      obtain ⟨hP, μ0, a1, a2, a3⟩ := pack f1 t e2 h
      rw [cellAt_get] at e1
      obtain ⟨a', ha', o, vs', e3, rr⟩ := f1.at e1
      rw [ha] at ha'; cases ha'
      exact ⟨hP, μ0, a1, a2, fun pre => .cons ⟨a, vs', rfl, .inl ⟨o, e3⟩, rr⟩ (a3 pre)⟩
    · rename_i d n ls e1 e2
      rw [e1] at h
      split at e
      · rename_i d' its e3
        cases e
        rw [e3] at h
        obtain ⟨rfl, h⟩ := h
        obtain ⟨hP, μ0, a1, a2, a3⟩ := pack f1 t e2 h
        rw [cellAt_get] at e1 e3
        obtain ⟨a', ha', cr⟩ := f1.at e1
        rw [ha] at ha'; cases ha'
        obtain ⟨b, hb, cr2⟩ := f1.at e3
        refine ⟨hP, a :: b :: μ0, .cons ha (.cons hb a1), .cons cr (.cons cr2 a2), fun pre => .cons ⟨a, by simp, rfl⟩ ?_⟩
        have := a3 (pre ++ [a] ++ [b])
        rwa [List.append_assoc, List.append_assoc, List.length_append, List.length_append] at this
      · cases e
    · cases e
theorem unpack {Sx : Sto} {μr : List Addr} : ∀ {pvs : List PV} {lvs lvs' : List LV} {S S2 : Sto} {μ0 : List Addr}, scat S pvs lvs lvs' = some S2 → Paired (fun i a => μ1[i]? = some a) (idxL pvs lvs) μ0 → Paired (CellR K H') (stL lvs' ++ Sx) (μ0 ++ μr) →
    S.length = μ1.length → (∀ (j : Nat) x b, S[j]? = some x → μ1[j]? = some b → j ∉ idxL pvs lvs → CellR K H' x b) →
    S2.length = μ1.length ∧ (∀ (j : Nat) x b, S2[j]? = some x → μ1[j]? = some b → CellR K H' x b) ∧ Paired (CellR K H') Sx μr ∧ (stL lvs').length = μ0.length := by
  intro pvs lvs lvs' S
  induction S, pvs, lvs, lvs' using scat.induct with
  | case1 S =>
    intro S2 μ0 e p1 p2 hl hk
    cases e
    cases p1
    exact ⟨hl, fun j x b e1 e2 => hk j x b e1 e2 (by simp [idxL]), p2, rfl⟩
  | case2 S q r x ls y ls' ih =>
    intro S2 μ0 e p1 p2 hl hk
    have ei : idxL (q :: r) (.d x :: ls) = idxL r ls := by cases q <;> rfl
    rw [ei] at p1 hk
    exact ih e p1 p2 hl hk
  | case3 S i r xs ls ys ls' ih =>
    intro S2 μ0 e p1 p2 hl hk
    cases p1 with
    | cons ha p1 =>
      cases p2 with
      | cons cr p2 =>
        obtain ⟨z1, z2, z3, z4⟩ := ih e p1 p2 (by rw [setS_eq, List.length_set]; exact hl) fun j x b e1 e2 hj => by
          rw [setS_eq, List.getElem?_set] at e1
          by_cases hji : i = j
          · subst hji
            rw [ha] at e2; cases e2
            rw [if_pos rfl] at e1
            split at e1
            · cases e1; exact cr
            · cases e1
          · rw [if_neg hji] at e1
            exact hk j x b e1 e2 (by simp only [idxL, List.mem_cons, not_or]; exact ⟨fun h => hji h.symm, hj⟩)
        exact ⟨z1, z2, z3, congrArg Nat.succ z4⟩
  | case4 S i r d0 its0 n0 ls d its n ls' ih =>
    intro S2 μ0 e p1 p2 hl hk
    cases p1 with
    | cons ha p1 =>
      cases p1 with
      | cons hb p1 =>
        cases p2 with
        | cons cr p2 =>
          cases p2 with
          | cons cr2 p2 =>
            obtain ⟨z1, z2, z3, z4⟩ := ih e p1 p2 (by rw [setS_eq, setS_eq, List.length_set, List.length_set]; exact hl) fun j x b e1 e2 hj => by
              rw [setS_eq, setS_eq, List.getElem?_set] at e1
              by_cases hji : i.succ = j
              · subst hji
                rw [hb] at e2; cases e2
                rw [if_pos rfl] at e1
                split at e1
                · cases e1; exact cr2
                · cases e1
              · rw [if_neg hji, List.getElem?_set] at e1
                by_cases hi : i = j
                · subst hi
                  rw [ha] at e2; cases e2
                  rw [if_pos rfl] at e1
                  split at e1
                  · cases e1; exact cr
                  · cases e1
                · rw [if_neg hi] at e1
                  exact hk j x b e1 e2 (by simp only [idxL, List.mem_cons, not_or]; exact ⟨fun h => hi h.symm, fun h => hji h.symm, hj⟩)
            exact ⟨z1, z2, z3, congrArg (fun z => Nat.succ (Nat.succ z)) z4⟩
  | case5 S q l1 l2 h1 h2 h3 h4 =>
    intro S2 μ0 e
    unfold scat at e
    split at e
    · exact (h1 rfl rfl rfl).elim
    · exact (h2 _ _ _ _ _ _ rfl rfl rfl).elim
    · exact (h3 _ _ _ _ _ _ rfl rfl rfl).elim
    · exact (h4 _ _ _ _ _ _ _ _ _ _ rfl rfl rfl).elim
    · cases e
end

/-! ### the kinds of defs, and their calls -/
/-- data out -/
def gD (f : List LV → (PyData → List LV → Prop) → Prop) : PSp := fun args S R => ∃ lvs R0, args = pvL 0 lvs ∧ S = stL lvs ∧ f lvs R0 ∧ ∀ r lvs', R0 r lvs' → ∀ S', R (.d r) (stL lvs' ++ S')
/-- a new list out -/
def gN (f : List LV → (List PyData → List LV → Prop) → Prop) : PSp := fun args S R => ∃ lvs R0, args = pvL 0 lvs ∧ S = stL lvs ∧ f lvs R0 ∧ ∀ xs lvs', R0 xs lvs' → ∀ i S', cellAt S' i = some (.lst xs) → R (.cel ((stL lvs').length + i)) (stL lvs' ++ S')
/-- a new ledger out -/
def gL (f : List LV → (List (Int × PyData) → Int → List LV → Prop) → Prop) : PSp := fun args S R => ∃ lvs R0, args = pvL 0 lvs ∧ S = stL lvs ∧ f lvs R0 ∧
  ∀ its n lvs', R0 its n lvs' → ∀ i d S', cellAt S' i = some (.led d n) → cellAt S' i.succ = some (.dic d its) → R (.cel ((stL lvs').length + i)) (stL lvs' ++ S')
abbrev GD := List LV → (PyData → List LV → Prop) → Prop
abbrev GN := List LV → (List PyData → List LV → Prop) → Prop
abbrev GL := List LV → (List (Int × PyData) → Int → List LV → Prop) → Prop
@[reducible] def cD (f : GD) (pvs : List PV) (S1 : Sto) (R : PQ) : Prop := match lvsOf S1 pvs with
  | some lvs => match frI (idxL pvs lvs) with
    | true => lnk S1 pvs (f lvs fun r lvs' => match scat S1 pvs lvs lvs' with
      | some S2 => R (.d r) S2
      | none => False)
    | false => False
  | none => False
@[reducible] def cN (f : GN) (pvs : List PV) (S1 : Sto) (R : List PyData → Sto → Prop) : Prop := match lvsOf S1 pvs with
  | some lvs => match frI (idxL pvs lvs) with
    | true => lnk S1 pvs (f lvs fun xs lvs' => match scat S1 pvs lvs lvs' with
      | some S2 => R xs S2
      | none => False)
    | false => False
  | none => False
@[reducible] def cL (f : GL) (pvs : List PV) (S1 : Sto) (R : PQ) : Prop := match lvsOf S1 pvs with
  | some lvs => match frI (idxL pvs lvs) with
    | true => lnk S1 pvs (f lvs fun its n lvs' => match scat S1 pvs lvs lvs' with
      | some S2 => ∀ d, R (.cel (lenS S2)) (snocS (snocS S2 (.led d n)) (.dic d its))
      | none => False)
    | false => False
  | none => False
section
variable {K : PySem.W.Frag} {c : FP} {μ1 : List Addr} {ρ : Rho} {S1 : Sto} {σ : L2.St} {H1 H' : Hp}
theorem nd_idx {μ0 : List Addr} : ∀ {is : List Nat}, is.Nodup → μ1.Nodup → Paired (fun i a => μ1[i]? = some a) is μ0 → μ0.Nodup := by
  intro is h hm p
  induction p with
  | nil => exact List.nodup_nil
  | cons ha t ih =>
    rename_i i is' a μ'
    obtain ⟨h1, h2⟩ := List.nodup_cons.mp h
    refine List.nodup_cons.mpr ⟨fun m => h1 ?_, ih h2⟩
    obtain ⟨j, hj⟩ := List.getElem?_of_mem m
    clear ih h h2 h1
    induction t generalizing j with
    | nil => simp at hj
    | cons hb t ih =>
      cases j with
      | zero =>
        simp at hj
        subst hj
        obtain ⟨b1, c1⟩ := List.getElem?_eq_some_iff.mp ha
        obtain ⟨b2, c2⟩ := List.getElem?_eq_some_iff.mp hb
        rw [(List.getElem_inj hm).mp (c1.trans c2.symm)]
        simp
      | succ j =>
        exact List.mem_cons_of_mem _ (ih (List.mem_of_getElem? (by simpa using hj)) j (by simpa using hj))
theorem paired_of {α β : Type} {F : α → β → Prop} : ∀ {xs : List α} {ys : List β}, xs.length = ys.length → (∀ (j : Nat) x y, xs[j]? = some x → ys[j]? = some y → F x y) → Paired F xs ys
  | [], [], _, _ => .nil
  | [], _ :: _, h, _ => by cases h
  | _ :: _, [], h, _ => by cases h
  | x :: xs, y :: ys, h, f => .cons (f 0 x y rfl rfl) (paired_of (by simpa using h) fun j a b e1 e2 => f (j + 1) a b (by simpa using e1) (by simpa using e2))
/-- behind a call: the cells that were handed in have what came out, all others are as they were -/
theorem after (f1 : Fr K c μ1 ρ S1 σ H1) {pvs : List PV} {lvs lvs' : List LV} {S2 Sx : Sto} {μ0 μ' : List Addr} (hs : scat S1 pvs lvs lvs' = some S2) (hi : Paired (fun i a => μ1[i]? = some a) (idxL pvs lvs) μ0) (pre : Pre μ0 μ')
    (rc : Paired (CellR K H') (stL lvs' ++ Sx) μ') (g : Ge H1 H') (same : ∀ b o, H1 b = some o → b ∉ μ0 → H' b = some o) :
    Fr K c μ1 ρ S2 σ H' ∧ ∃ μr, μ' = μ0 ++ μr ∧ Paired (CellR K H') Sx μr ∧ (stL lvs').length = μ0.length := by
  obtain ⟨μr, rfl⟩ := pre
  have sub : ∀ a ∈ μ0, ∃ i, i ∈ idxL pvs lvs ∧ μ1[i]? = some a := by
    clear rc same
    generalize idxL pvs lvs = is at hi ⊢
    induction hi with
    | nil => intro a ha; cases ha
    | cons h t ih =>
      intro a ha
      rcases List.mem_cons.mp ha with rfl | ha
      · exact ⟨_, by simp, h⟩
      · obtain ⟨i, h1, h2⟩ := ih a ha
        exact ⟨i, List.mem_cons_of_mem _ h1, h2⟩
  obtain ⟨z1, z2, z3, z4⟩ := unpack (μ1 := μ1) (H' := H') hs hi rc (paired_len f1.cel) fun j x b e1 e2 hj => by
    obtain ⟨b', h1, cr⟩ := f1.at e1
    rw [e2] at h1; cases h1
    refine cr.move (fun o e => same b o e fun hb => ?_) g
    obtain ⟨i, h1, h2⟩ := sub b hb
    obtain ⟨b1, c1⟩ := List.getElem?_eq_some_iff.mp e2
    obtain ⟨b2, c2⟩ := List.getElem?_eq_some_iff.mp h2
    have : j = i := (List.getElem_inj f1.nd).mp (c1.trans c2.symm)
    exact hj (this ▸ h1)
  refine ⟨⟨paired_imp f1.env fun _ _ z => SlotR.mono g (.refl _) z, paired_of z1 z2, f1.nd, f1.own, fun b o e n => same b o (f1.keep b o e n) fun hb => ?_⟩, μr, rfl, z3, z4⟩
  obtain ⟨i, _, h2⟩ := sub b hb
  rcases f1.own b (List.mem_of_getElem? h2) with z | z
  · exact n z
  · rw [z] at e; cases e
end

theorem Fr.newC {K : PySem.W.Frag} {c : FP} {μ : List Addr} {ρ : Rho} {S : Sto} {σ : L2.St} {H : Hp} {p : Addr} {x : Cell} (f : Fr K c μ ρ S σ H) (h : CellR K H x p) (hp : p ∉ μ) (ho : c.F0 p ∨ c.H0 p = none) : Fr K c (μ ++ [p]) ρ (snocS S x) σ H := by
  rw [snocS_eq]
  refine ⟨paired_imp f.env fun _ _ z => SlotR.mono (.refl _) ⟨[p], rfl⟩ z, f.cel.snoc h, ?_, ?_, f.keep⟩
  · rw [List.nodup_append]
    refine ⟨f.nd, by simp, fun a ha b hb z => ?_⟩
    have e : b = p := by simpa using hb
    subst e; subst z
    exact hp ha
  · intro a ha
    rcases List.mem_append.mp ha with ha | ha
    · exact f.own a ha
    · have e : a = p := by simpa using ha
      subst e
      exact ho
section
variable {K : PySem.W.Frag} {c : FP} {μ1 : List Addr} {ρ : Rho} {S1 : Sto} {σ : L2.St} {H1 : Hp} {pvs : List PV} {vs : List V} {Q : VK} {E : XK}
theorem core_d {f : GD} {R : PQ} (f1 : Fr K c μ1 ρ S1 σ H1) (r1 : Paired (RepP K H1 μ1) pvs vs) (h : cD f pvs S1 R)
    (q : ∀ r S2, R (.d r) S2 → ∀ v H', Fr K c μ1 ρ S2 σ H' → Rep K H' r v → Ge H1 H' → Q v H') : upF K (gD f) vs H1 Q E := by
  unfold cD at h
  split at h
  · rename_i lvs e
    split at h
    · rename_i e2
      obtain ⟨hP, μ0, a1, a2, a3⟩ := pack f1 r1 e h
      refine ⟨μ0, pvL 0 lvs, stL lvs, fun pv S' => ∃ r lvs' Sx, pv = .d r ∧ S' = stL lvs' ++ Sx ∧ (match scat S1 pvs lvs lvs' with
        | some S2 => R (.d r) S2
        | none => False), a3 [], a2, nd_idx (frI_nd e2) f1.nd a1, ⟨lvs, _, rfl, rfl, hP, fun r lvs' hr S' => ⟨r, lvs', S', rfl, rfl, hr⟩⟩, fun pv S' hR μ' v H' p' rc nd own rp g same => ?_⟩
      obtain ⟨r, lvs', Sx, rfl, rfl, hR⟩ := hR
      split at hR
      · rename_i S2 e3
        obtain ⟨f2, _⟩ := after f1 e3 a1 p' rc g same
        exact q r S2 hR v H' f2 rp g
      · exact hR.elim
    · exact h.elim
  · exact h.elim
theorem core_n {f : GN} {R : List PyData → Sto → Prop} (f1 : Fr K c μ1 ρ S1 σ H1) (r1 : Paired (RepP K H1 μ1) pvs vs) (h : cN f pvs S1 R)
    (q : ∀ xs S2, R xs S2 → ∀ p us H', Fr K c μ1 ρ S2 σ H' → H' p = some (.lst us) → p ∉ μ1 → (c.F0 p ∨ c.H0 p = none) → Reps K H' xs us → Ge H1 H' → Q (.ref p) H') : upF K (gN f) vs H1 Q E := by
  unfold cN at h
  split at h
  · rename_i lvs e
    split at h
    · rename_i e2
      obtain ⟨hP, μ0, a1, a2, a3⟩ := pack f1 r1 e h
      refine ⟨μ0, pvL 0 lvs, stL lvs, fun pv S' => ∃ xs lvs' i Sx, pv = .cel ((stL lvs').length + i) ∧ S' = stL lvs' ++ Sx ∧ cellAt Sx i = some (.lst xs) ∧ (match scat S1 pvs lvs lvs' with
        | some S2 => R xs S2
        | none => False), a3 [], a2, nd_idx (frI_nd e2) f1.nd a1, ⟨lvs, _, rfl, rfl, hP, fun xs lvs' hr i S' hc => ⟨xs, lvs', i, S', rfl, rfl, hc, hr⟩⟩, fun pv S' hR μ' v H' p' rc nd own rp g same => ?_⟩
      obtain ⟨xs, lvs', i, Sx, rfl, rfl, hc, hR⟩ := hR
      split at hR
      · rename_i S2 e3
        obtain ⟨f2, μr, rfl, z3, z4⟩ := after f1 e3 a1 p' rc g same
        obtain ⟨a, ha, rfl⟩ := rp
        rw [z4, List.getElem?_append_right (Nat.le_add_right _ _), Nat.add_sub_cancel_left] at ha
        rw [cellAt_get] at hc
        obtain ⟨a', ha', us, e4, rr⟩ := paired_get z3 hc
        rw [ha] at ha'; cases ha'
        have na : a ∉ μ0 := fun z => (List.nodup_append.mp nd).2.2 _ z _ (List.mem_of_getElem? ha) rfl
        have hn : H1 a = none := (own a (List.mem_append.mpr (.inr (List.mem_of_getElem? ha)))).elim (fun z => absurd z na) id
        exact q xs S2 hR a us H' f2 e4 (f1.notIn hn) (f1.noH0 hn) rr g
      · exact hR.elim
    · exact h.elim
  · exact h.elim
theorem core_l {f : GL} {R : PQ} (f1 : Fr K c μ1 ρ S1 σ H1) (r1 : Paired (RepP K H1 μ1) pvs vs) (h : cL f pvs S1 R)
    (q : ∀ i S2, R (.cel i) S2 → ∀ μ2 p H', Pre μ1 μ2 → Fr K c μ2 ρ S2 σ H' → μ2[i]? = some p → Ge H1 H' → Q (.ref p) H') : upF K (gL f) vs H1 Q E := by
  unfold cL at h
  split at h
  · rename_i lvs e
    split at h
    · rename_i e2
      obtain ⟨hP, μ0, a1, a2, a3⟩ := pack f1 r1 e h
      refine ⟨μ0, pvL 0 lvs, stL lvs, fun pv S' => ∃ its n lvs' i d Sx, pv = .cel ((stL lvs').length + i) ∧ S' = stL lvs' ++ Sx ∧ cellAt Sx i = some (.led d n) ∧ cellAt Sx i.succ = some (.dic d its) ∧ (match scat S1 pvs lvs lvs' with
        | some S2 => ∀ d, R (.cel (lenS S2)) (snocS (snocS S2 (.led d n)) (.dic d its))
        | none => False), a3 [], a2, nd_idx (frI_nd e2) f1.nd a1, ⟨lvs, _, rfl, rfl, hP, fun its n lvs' hr i d S' hc hc2 => ⟨its, n, lvs', i, d, S', rfl, rfl, hc, hc2, hr⟩⟩, fun pv S' hR μ' v H' p' rc nd own rp g same => ?_⟩
      obtain ⟨its, n, lvs', i, d, Sx, rfl, rfl, hc, hc2, hR⟩ := hR
      split at hR
      · rename_i S2 e3
        obtain ⟨f2, μr, rfl, z3, z4⟩ := after f1 e3 a1 p' rc g same
        obtain ⟨a, ha, rfl⟩ := rp
        rw [z4, List.getElem?_append_right (Nat.le_add_right _ _), Nat.add_sub_cancel_left] at ha
        rw [cellAt_get] at hc hc2
        obtain ⟨a', ha', c1⟩ := paired_get z3 hc
        rw [ha] at ha'; cases ha'
        obtain ⟨b, hb, c2⟩ := paired_get z3 hc2
        have nd' := List.nodup_append.mp nd
        have na : a ∉ μ0 := fun z => nd'.2.2 _ z _ (List.mem_of_getElem? ha) rfl
        have nb : b ∉ μ0 := fun z => nd'.2.2 _ z _ (List.mem_of_getElem? hb) rfl
        have ab : b ≠ a := fun z => by
          subst z
          obtain ⟨b1, k1⟩ := List.getElem?_eq_some_iff.mp ha
          obtain ⟨b2, k2⟩ := List.getElem?_eq_some_iff.mp hb
          have := (List.getElem_inj nd'.2.1).mp (k1.trans k2.symm)
          omega
        have ha1 : H1 a = none := (own a (List.mem_append.mpr (.inr (List.mem_of_getElem? ha)))).elim (fun z => absurd z na) id
        have hb1 : H1 b = none := (own b (List.mem_append.mpr (.inr (List.mem_of_getElem? hb)))).elim (fun z => absurd z nb) id
        have f3 := f2.newC c1 (f1.notIn ha1) (f1.noH0 ha1)
        have f4 := f3.newC c2 (by
          rw [List.mem_append, not_or]
          exact ⟨f1.notIn hb1, by simpa using ab⟩) (f1.noH0 hb1)
        refine q _ _ (hR d) (μ1 ++ [a] ++ [b]) a H' ⟨[a, b], by simp⟩ f4 ?_ g
        rw [lenS_eq, paired_len f2.cel, List.append_assoc]; simp
      · exact hR.elim
    · exact h.elim
  · exact h.elim
end
section
variable {X : Cx} {k n : Nat} {f C : Addr} {fd : FuncData} {ps : List Str} {x m : Str} {p pos apos : Pos} {e o : Expr} {es : List Expr} {ta : TAp} {to : TEp}
@[reducible] def tGD (f : GD) (ta : TAp) : TEp := fun ρ S R => ta ρ S fun pvs S1 => cD f pvs S1 R
@[reducible] def tGN (f : GN) (ta : TAp) : TNp := fun ρ S R => ta ρ S fun pvs S1 => cN f pvs S1 R
@[reducible] def tGL (f : GL) (ta : TAp) : TEp := fun ρ S R => ta ρ S fun pvs S1 => cL f pvs S1 R
theorem gd_up {g : GD} {c : FP} {σ : L2.St} {H : Hp} {Q : VK} (h : up X.K c (tGD g ta) σ H Q) : tCall (upF X.K (gD g)) [] E0 (upA X.K c n ta) σ H Q := by
  obtain ⟨μ, ρ, S, R, f, h, q⟩ := h
  refine ⟨μ, ρ, S, _, f, h, fun pvs S1 h1 hl μ1 vs H1 p1 f1 r1 g1 => ?_⟩
  dsimp only
  rw [List.append_nil]
  exact core_d f1 r1 h1 fun r S2 hR v H' f2 rp g => q (.d r) S2 hR μ1 v H' p1 f2 rp (g1.trans g)
theorem gn_up {g : GN} {c : FP} {σ : L2.St} {H : Hp} {Q : VK} (h : upN X.K c (tGN g ta) σ H Q) : tCall (upF X.K (gN g)) [] E0 (upA X.K c n ta) σ H Q := by
  obtain ⟨μ, ρ, S, R, f, h, q⟩ := h
  refine ⟨μ, ρ, S, _, f, h, fun pvs S1 h1 hl μ1 vs H1 p1 f1 r1 g1 => ?_⟩
  dsimp only
  rw [List.append_nil]
  exact core_n f1 r1 h1 fun xs S2 hR p us H' f2 e np no rr g => q xs S2 hR μ1 p us H' p1 f2 e np no rr (g1.trans g)
theorem gl_up {g : GL} {c : FP} {σ : L2.St} {H : Hp} {Q : VK} (h : up X.K c (tGL g ta) σ H Q) : tCall (upF X.K (gL g)) [] E0 (upA X.K c n ta) σ H Q := by
  obtain ⟨μ, ρ, S, R, f, h, q⟩ := h
  refine ⟨μ, ρ, S, _, f, h, fun pvs S1 h1 hl μ1 vs H1 p1 f1 r1 g1 => ?_⟩
  dsimp only
  rw [List.append_nil]
  exact core_l f1 r1 h1 fun i S2 hR μ2 p H' p2 f2 e g => q (.cel i) S2 hR μ2 (.ref p) H' (p1.trans p2) f2 ⟨p, e, rfl⟩ (g1.trans g)
theorem w_gD {g : GD} (F : FnOkG X.prog X.w X.K X.mg X.base k f fd ps (upF X.K (gD g))) (hr : Room k X.A) (hgs : X.A.guards = some []) (hg : Gl X x) (hm : X.mg x = some (.ref f)) (hk : PySem.W.keepIn X.K (.ref f) = true) (hb : Binds X.K fd ps [])
    (ha : WA X (e :: es) n ta) (hdb : (x == ("__debug__" : Str)) = false := by decide) (he : starEach (e :: es) X.env = (false, eval e X.env) :: starEach es X.env := by rfl) (hpl : (backTo pos (starEach es X.env)).any (·.1) = false := by rfl) :
    WE X (.Call (.Name x p) (e :: es) [] pos) (tGD g ta) :=
  ⟨fun c => pe_w (pe_callG F hr hgs hg hm hk hb .nil (ha.pa c) hdb he hpl) fun _ _ _ h => gd_up h⟩
theorem w_gN {g : GN} (F : FnOkG X.prog X.w X.K X.mg X.base k f fd ps (upF X.K (gN g))) (hr : Room k X.A) (hgs : X.A.guards = some []) (hg : Gl X x) (hm : X.mg x = some (.ref f)) (hk : PySem.W.keepIn X.K (.ref f) = true) (hb : Binds X.K fd ps [])
    (ha : WA X (e :: es) n ta) (hdb : (x == ("__debug__" : Str)) = false := by decide) (he : starEach (e :: es) X.env = (false, eval e X.env) :: starEach es X.env := by rfl) (hpl : (backTo pos (starEach es X.env)).any (·.1) = false := by rfl) :
    WN X (.Call (.Name x p) (e :: es) [] pos) (tGN g ta) :=
  ⟨fun c => pe_w (pe_callG F hr hgs hg hm hk hb .nil (ha.pa c) hdb he hpl) fun _ _ _ h => gn_up h⟩
theorem w_gL {g : GL} (F : FnOkG X.prog X.w X.K X.mg X.base k f fd ps (upF X.K (gL g))) (hr : Room k X.A) (hgs : X.A.guards = some []) (hg : Gl X x) (hm : X.mg x = some (.ref f)) (hk : PySem.W.keepIn X.K (.ref f) = true) (hb : Binds X.K fd ps [])
    (ha : WA X (e :: es) n ta) (hdb : (x == ("__debug__" : Str)) = false := by decide) (he : starEach (e :: es) X.env = (false, eval e X.env) :: starEach es X.env := by rfl) (hpl : (backTo pos (starEach es X.env)).any (·.1) = false := by rfl) :
    WE X (.Call (.Name x p) (e :: es) [] pos) (tGL g ta) :=
  ⟨fun c => pe_w (pe_callG F hr hgs hg hm hk hb .nil (ha.pa c) hdb he hpl) fun _ _ _ h => gl_up h⟩
/-! methods -/
theorem pe_methG {sp : Sp} {dvs : List V} {ds : List Value} {E : XK} {ta : TE} {t : TA} {pl : Sem Bool} (he : PE X o ta) (c : Cls X.K C) (hm : Meth X.K C m f) (F : FnOkG X.prog X.w X.K X.mg X.base k f fd ps sp) (hr : Room k X.A) (hgs : X.A.guards = some []) (hb : Binds X.K fd ps ds) (hd : Vals dvs ds) (ha : PA X (e :: es) t)
    (hst : starEach (e :: es) X.env = (false, eval e X.env) :: starEach es X.env := by rfl) (hpl : (backTo pos (starEach es X.env)).any (·.1) = false := by rfl)
    (ht : eval (.Call (.Attribute o m apos) (e :: es) [] pos) X.env = (do
      let ov ← eval o X.env
      standAt apos.atName
      let (f, first) ← holding [ov] (getMethod ov m pl)
      callWith pos f first (backTo pos (starEach (e :: es) X.env)) (backToKw pos (keywordEach [] X.env))) := by rfl) :
    PE X (.Call (.Attribute o m apos) (e :: es) [] pos) (tMeth C m sp dvs E ta t) := by
  refine ⟨fun pins s σ H Q I h => ?_⟩
  refine PySem.W.methodCall_KW (pl := pl) (thn (he.run pins s σ H _ I h) fun u s1 ⟨x, H1, I1, rx, a, dx, fs, ex, ea, l, q⟩ => ?_) ht
  subst ex
  obtain rfl : u = Value.ref a := rx
  refine getmeth_ok I1 ea c hm l ?_
  refine PySem.W.callWith_K (first := [.ref a]) (h₀ := X.base) I.ok.mod.kin hm.kp (thn (ha.run pos pins s1 σ H1 _ I1 q) fun us s2 ⟨vs, H2, I2, r, q2⟩ => ⟨I2.kIn, ?_⟩) hst hpl
  exact run_fnG (us := .ref a :: us) (vs := .ref a :: vs) F hr hgs hb hd I2 (.cons rfl r) q2
theorem pe_methG0 {sp : Sp} {dvs : List V} {ds : List Value} {E : XK} {ta : TE} {pl : Sem Bool} (he : PE X o ta) (c : Cls X.K C) (hm : Meth X.K C m f) (F : FnOkG X.prog X.w X.K X.mg X.base k f fd ps sp) (hr : Room k X.A) (hgs : X.A.guards = some []) (hb : Binds X.K fd ps ds) (hd : Vals dvs ds)
    (ht : eval (.Call (.Attribute o m apos) [] [] pos) X.env = (do
      let ov ← eval o X.env
      standAt apos.atName
      let (f, first) ← holding [ov] (getMethod ov m pl)
      callWith pos f first (backTo pos (starEach [] X.env)) (backToKw pos (keywordEach [] X.env))) := by rfl) :
    PE X (.Call (.Attribute o m apos) [] [] pos) (tMeth C m sp dvs E ta tNil) := by
  refine ⟨fun pins s σ H Q I h => ?_⟩
  refine PySem.W.methodCall_KW (pl := pl) (thn (he.run pins s σ H _ I h) fun u s1 ⟨x, H1, I1, rx, a, dx, fs, ex, ea, l, q⟩ => ?_) ht
  subst ex
  obtain rfl : u = Value.ref a := rx
  refine getmeth_ok I1 ea c hm l ?_
  exact PySem.W.callWith_K0 (first := [.ref a]) I1.kIn hm.kp (run_fnG (us := [.ref a]) (vs := [.ref a]) F hr hgs hb hd I1 (.cons rfl .nil) q)
/-- a method's name is none of the attributes -/
structure MNm (m : Str) : Prop where
  c : ¬ m = "coming"
  p : ¬ m = "present"
@[reducible] def isLd (S : Sto) (x : PV) (P : Prop) : Prop := match x with
  | .cel i => match cellAt S i with
    | some (.led _ _) => P
    | _ => False
  | _ => False
theorem isLd_at {K : PySem.W.Frag} {c : FP} {μ : List Addr} {ρ : Rho} {S : Sto} {σ : L2.St} {H : Hp} (L : LCls K C) (nm : MNm m) (f : Fr K c μ ρ S σ H) {x : PV} {v : V} (r : RepP K H μ x v) {P : Prop} (h : isLd S x P) : P ∧ ∃ a dx fs, v = .ref a ∧ H a = some (.ins C dx fs) ∧ fs.lookup m = none := by
  unfold isLd at h
  split at h
  · rename_i i
    obtain ⟨a, ha, rfl⟩ := r
    split at h
    · rename_i d n e1
      rw [cellAt_get] at e1
      obtain ⟨a', ha', C', dx, hH, ns⟩ := f.at e1
      rw [ha] at ha'; cases ha'
      rw [L.ns] at ns
      cases ns
      exact ⟨h, a, dx, _, rfl, hH, lfs_no _ _ nm.c nm.p⟩
    · exact h.elim
  · exact h.elim
@[reducible] def tMD (f : GD) (to : TEp) (ta : TAp) : TEp := fun ρ S R => to ρ S fun x S1 => isLd S1 x (ta ρ S1 fun pvs S2 => cD f (x :: pvs) S2 R)
@[reducible] def tMN (f : GN) (to : TEp) (ta : TAp) : TNp := fun ρ S R => to ρ S fun x S1 => isLd S1 x (ta ρ S1 fun pvs S2 => cN f (x :: pvs) S2 R)
@[reducible] def tML (f : GL) (to : TEp) (ta : TAp) : TEp := fun ρ S R => to ρ S fun x S1 => isLd S1 x (ta ρ S1 fun pvs S2 => cL f (x :: pvs) S2 R)
theorem md_up (L : LCls X.K C) (nm : MNm m) {g : GD} {c : FP} {σ : L2.St} {H : Hp} {Q : VK} (h : up X.K c (tMD g to ta) σ H Q) : tMeth C m (upF X.K (gD g)) [] E0 (up X.K c to) (upA X.K c n ta) σ H Q := by
  obtain ⟨μ, ρ, S, R, f, h, q⟩ := h
  refine ⟨μ, ρ, S, _, f, h, fun x S1 h1 μ1 v1 H1 p1 f1 r1 g1 => ?_⟩
  obtain ⟨h1, a, dx, fs, rfl, e, l⟩ := isLd_at L nm f1 r1 h1
  refine ⟨a, dx, fs, rfl, e, l, μ1, ρ, S1, _, f1, h1, fun pvs S2 h2 hl μ2 vs H2 p2 f2 r2 g2 => ?_⟩
  dsimp only
  rw [List.append_nil]
  exact core_d f2 (.cons (RepP.mono g2 p2 r1) r2) h2 fun r S3 hR v H' f3 rp g => q (.d r) S3 hR μ2 v H' (p1.trans p2) f3 rp (g1.trans (g2.trans g))
theorem mn_up (L : LCls X.K C) (nm : MNm m) {g : GN} {c : FP} {σ : L2.St} {H : Hp} {Q : VK} (h : upN X.K c (tMN g to ta) σ H Q) : tMeth C m (upF X.K (gN g)) [] E0 (up X.K c to) (upA X.K c n ta) σ H Q := by
  obtain ⟨μ, ρ, S, R, f, h, q⟩ := h
  refine ⟨μ, ρ, S, _, f, h, fun x S1 h1 μ1 v1 H1 p1 f1 r1 g1 => ?_⟩
  obtain ⟨h1, a, dx, fs, rfl, e, l⟩ := isLd_at L nm f1 r1 h1
  refine ⟨a, dx, fs, rfl, e, l, μ1, ρ, S1, _, f1, h1, fun pvs S2 h2 hl μ2 vs H2 p2 f2 r2 g2 => ?_⟩
  dsimp only
  rw [List.append_nil]
  exact core_n f2 (.cons (RepP.mono g2 p2 r1) r2) h2 fun xs S3 hR p us H' f3 e np no rr g => q xs S3 hR μ2 p us H' (p1.trans p2) f3 e np no rr (g1.trans (g2.trans g))
theorem ml_up (L : LCls X.K C) (nm : MNm m) {g : GL} {c : FP} {σ : L2.St} {H : Hp} {Q : VK} (h : up X.K c (tML g to ta) σ H Q) : tMeth C m (upF X.K (gL g)) [] E0 (up X.K c to) (upA X.K c n ta) σ H Q := by
  obtain ⟨μ, ρ, S, R, f, h, q⟩ := h
  refine ⟨μ, ρ, S, _, f, h, fun x S1 h1 μ1 v1 H1 p1 f1 r1 g1 => ?_⟩
  obtain ⟨h1, a, dx, fs, rfl, e, l⟩ := isLd_at L nm f1 r1 h1
  refine ⟨a, dx, fs, rfl, e, l, μ1, ρ, S1, _, f1, h1, fun pvs S2 h2 hl μ2 vs H2 p2 f2 r2 g2 => ?_⟩
  dsimp only
  rw [List.append_nil]
  exact core_l f2 (.cons (RepP.mono g2 p2 r1) r2) h2 fun i S3 hR μ3 p H' p3 f3 e g => q (.cel i) S3 hR μ3 (.ref p) H' (p1.trans (p2.trans p3)) f3 ⟨p, e, rfl⟩ (g1.trans (g2.trans g))
end
end Pu

set_option autoImplicit false
namespace Pu
open PySem PySem.Spec PyProof.Rows L2
/-! ### sorted(d.items()), the keys ascending as they stand -/
/-- a tuple of an int and another thing stands there -/
def ItmAt (h : Heap) (v : Value) (i : Int) (x : Value) : Prop := ∃ a t, v = .ref a ∧ h.get? a = some { cls := .type "tuple", data := .seq #[.int i t, x] }
theorem ItmAt.keeps {h h' : Heap} {v x : Value} {i : Int} (r : ItmAt h v i x) (k : ∀ b o, h.get? b = some o → o.cls = .type "tuple" → h'.get? b = some o) : ItmAt h' v i x := by
  obtain ⟨a, t, e, g⟩ := r
  exact ⟨a, t, e, k _ _ g rfl⟩
def keyZ (h : Heap) : Value → Int
  | .ref a => match h.get? a with
    | some o => match o.data with
      | .seq its _ => match its[0]? with
        | some (Value.int i _) => i
        | _ => 0
      | _ => 0
    | none => 0
  | _ => 0
theorem ItmAt.key {h : Heap} {v x : Value} {i : Int} (r : ItmAt h v i x) : keyZ h v = i := by
  obtain ⟨a, t, rfl, g⟩ := r
  unfold keyZ
  simp only [g]
  rfl
def secZ (h : Heap) : Value → Value
  | .ref a => match h.get? a with
    | some o => match o.data with
      | .seq its _ => (its[1]?).getD .none
      | _ => .none
    | none => .none
  | _ => .none
theorem ItmAt.sec {h : Heap} {v x : Value} {i : Int} (r : ItmAt h v i x) : secZ h v = x := by
  obtain ⟨a, t, rfl, g⟩ := r
  unfold secZ
  simp only [g]
  rfl
section
variable {prog : Program} {w : World} {A : Around} {E : Value → Shared → Prop} {s : Shared}
theorem swo_key (f : Value → Int) : SrtO.Swo fun v u => decide (f v < f u) :=
  ⟨fun x y h => decide_eq_false (by have := of_decide_eq_true h; omega), fun x y z h1 h2 => decide_eq_false (by have := of_decide_eq_false h1; have := of_decide_eq_false h2; omega)⟩
theorem itm_cmp {vs : List Value} {f : Value → Int} {g : Value → Value} (hp : ∀ v ∈ vs, ItmAt s.heap v (f v) (g v)) (inj : ∀ v ∈ vs, ∀ u ∈ vs, f v = f u → v = u) :
    SrtO.Cmp prog w A s (tuples' true) (fun p => p.1 ∈ vs) (SrtO.lt2 fun v u => decide (f v < f u)) := by
  intro p q hm hm'
  have h1 := hp _ hm
  have h2 := hp _ hm'
  have hj := inj _ hm _ hm'
  show wpAny (model prog w) A (keyLt' (tuples' true) p.1 q.1) (fun r s' => s' = s ∧ r = decide (f p.1 < f q.1)) (fun _ _ => False) s
  generalize p.1 = v at *
  generalize q.1 = u at *
  generalize f v = x at *
  generalize f u = y at *
  generalize g v = gv at *
  generalize g u = gu at *
  obtain ⟨a, t, e, ho⟩ := h1
  obtain ⟨b, t', e', ho'⟩ := h2
  rw [e, e']
  refine PySem.W.kat_lt ho rfl ho' rfl ?_
  show PySem.W.KatLex prog w A true (decide (2 < 2)) _ [(.int x t, .int y t'), (gv, gu)] 0 s
  refine PySem.W.kat_cons (SeqAt.EqAt.int_int x t y t' prog w _ _ ?_)
  refine PySem.W.kat_go (fun e1 => ?_) (fun e1 => ?_)
  · have ex : x = y := by simpa using e1
    have vu := hj ex
    rw [e, e'] at vu
    cases vu
    rw [ho] at ho'
    have : gv = gu := by
      have h := congrArg Obj.data (Option.some.inj ho')
      simp at h
      exact h.2
    subst this
    refine PySem.W.kat_yes (PySem.W.kat_cons (SeqAt.EqAt.same gv prog w _ _ ?_))
    exact PySem.W.kat_yes (PySem.W.kat_nil ⟨rfl, (decide_eq_false (by omega)).symm⟩)
  · exact PySem.W.kat_no (oneLt_int ⟨rfl, rfl⟩)
theorem itm_firsts {h : Heap} {f : Value → Int} {g : Value → Value} : ∀ vs : List Value, (∀ v ∈ vs, ItmAt h v (f v) (g v)) → ∃ fs : List Value, PySem.W.KatTups h vs fs ∧ fs.length = vs.length ∧ ∀ y ∈ fs, ∃ i t, y = Value.int i t
  | [], _ => ⟨[], PySem.W.KatTups.nil, rfl, fun f hf => by simp at hf⟩
  | v :: vs, x => by
    obtain ⟨fs, k, hl, hi⟩ := itm_firsts vs fun u hu => x u (List.mem_cons_of_mem _ hu)
    obtain ⟨a, t, e, ho⟩ := x v (List.mem_cons_self ..)
    refine ⟨.int (f v) t :: fs, by rw [e]; exact PySem.W.KatTups.cons ho rfl rfl (by rw [e]; rfl) k, by rw [List.length_cons, List.length_cons, hl], fun y hy => ?_⟩
    rcases List.mem_cons.mp hy with rfl | hy
    · exact ⟨_, _, rfl⟩
    · exact hi y hy
theorem itm_sortable {a : Addr} {vs : List Value} {f : Value → Int} {g : Value → Value} (h0 : 0 < vs.length) (hp : ∀ v ∈ vs, ItmAt s.heap v (f v) (g v)) (inj : ∀ v ∈ vs, ∀ u ∈ vs, f v = f u → v = u) (ha : ∀ o, s.heap.get? a = some o → o.cls ≠ .type "tuple") :
    SrtO.SortableO prog w A s a vs fun v u => decide (f v < f u) := by
  intro h' keep
  have hp' : ∀ v ∈ vs, ItmAt h' v (f v) (g v) := fun v hm => (hp v hm).keeps fun b o e c => keep b o (fun z => by subst z; exact ha o e c) e
  obtain ⟨fs, h1, h2, h3⟩ := itm_firsts vs hp'
  refine ⟨tuples' true, fun Q E hq => ?_, itm_cmp hp' inj⟩
  refine PySem.W.kat_kind (T := .type "int") h1 (by omega) (fun y hm => ?_) (by rfl) ?_
  · obtain ⟨x, t, rfl⟩ := h3 y hm
    exact PySem.W.Looks.now
  · have e : (Value.type "int" != Value.type "tuple") = true := by first | decide +kernel | rfl | decide
    rw [e]
    exact hq
/-- what ascends already stays as it is -/
theorem srt_same {f : Value → Int} : ∀ {l m : List Value}, l.Perm m → l.Pairwise (fun x y => ¬ f y < f x) → m.Pairwise (fun x y => f x < f y) → l = m
  | [], m, p, _, _ => (List.nil_perm.mp p).symm
  | x :: l, [], p, _, _ => by have := p.length_eq; simp at this
  | x :: l, y :: m, p, h1, h2 => by
    have k1 := List.pairwise_cons.mp h1
    have k2 := List.pairwise_cons.mp h2
    have hx : x = y := by
      rcases List.mem_cons.mp (p.mem_iff.mp (List.mem_cons_self ..)) with e | e
      · exact e
      · rcases List.mem_cons.mp (p.mem_iff.mpr (List.mem_cons_self ..)) with e' | e'
        · exact e'.symm
        · have := k1.1 _ e'
          have := k2.1 _ e
          omega
    subst hx
    rw [srt_same (List.Perm.cons_inv p) k1.2 k2.2]
end
section
variable {X : Cx}
def rItK : V → List V → Hp → VK → Prop := fun x xs H Q => ∃ (a : Addr) (kvs : List (Key × V)), x = .ref a ∧ xs = [] ∧ H a = some (.dK kvs) ∧ ∀ p, H p = none → Q (.ref p) (upd H p (L2.DX.itemsO p a))
theorem mt_itemsK : MtR X "dict.items" rItK := by
  intro pins s σ H x xs v us Q I rx rxs h
  obtain ⟨a, kvs, rfl, rfl, ha, q⟩ := h
  cases rx
  cases rxs
  obtain ⟨z, hd, vs, rel, dd⟩ := dk_of I.hok ha
  obtain ⟨o, es, ep, ho, hx, hdat, _⟩ := dd
  refine DT.callItems (es := es) (ep := ep) hd ⟨o, ho, hx, hdat⟩ ?_
  have hf : H s.heap.objs.size = none := I.hok.fresh (Nat.le_refl _)
  exact ⟨.ref s.heap.objs.size, upd H s.heap.objs.size (L2.DX.itemsO s.heap.objs.size a), I.laid (t' := s.toks) (fun b u e => Heap.get?_push_of_some _ e) (Nat.le_refl _) (L2.DX.itemsO_ok (Heap.get?_push_size _ rfl)), rfl, q _ hf⟩
def rSortK : List V → Hp → VK → Prop := fun vs H Q => ∃ (p a : Addr) (kvs : List (Key × V)) (ns : List Int), vs = [.ref p] ∧ H p = some (L2.DX.itemsO p a) ∧ H a = some (.dK kvs) ∧ kvs.map (·.1) = ns.map Sum.inl ∧ ns.Pairwise (· < ·) ∧
  ∀ (H' : Hp) (l : Addr) (ts : List Addr), (∀ b o, H b = some o → H' b = some o) → H l = none → H' l = some (.lst (ts.map V.ref)) → Paired (fun (t : Addr) (q : Key × V) => H' t = some (.tup [kV q.1, q.2])) ts kvs → Q (.ref l) H'
theorem cr_sortK (hc : X.calm = true) : CallR X (.builtin "sorted") rSortK := by
  intro pins s σ H xs us Q I r h
  obtain ⟨p, a, kvs, ns, rfl, hp, ha, hkn, hasc, q⟩ := h
  obtain rfl := Vals.ref1 r
  have view : s.heap.IsItemsView p a := (show ObjOk X.prog X.w H s.heap p (L2.DX.itemsO p a) from I.hok p _ hp).1
  obtain ⟨z, hd, vs, rel, dd⟩ := dk_of I.hok ha
  obtain ⟨o, es, ep, ho, hx, hdat, _, hpr, _⟩ := dd
  have hsz : es.size = vs.length := by rw [← hpr.length]; simp
  have l1 : kvs.length = vs.length := Paired.length rel
  have hh : X.A.handled = none := I.ok.hd hc
  refine DT.sortedI (es := es) (ep := ep) hh view ⟨o, ho, hx, hdat⟩ (by omega) fun h' tk as hk hlt hl hG => ?_
  have lak : as.length = kvs.length := by omega
  have nd : as.Nodup := List.Pairwise.imp (fun h => Nat.ne_of_lt h) hG.rise
  have nsl : ns.length = kvs.length := by have := congrArg List.length hkn; simpa using this.symm
  -- the pairs that were made
  have pr : ∀ (j : Nat) (b : Addr), as[j]? = some b → ∃ (i : Int) (t : Tok) (x : Value) (q : Key × V), ns[j]? = some i ∧ kvs[j]? = some q ∧ q.1 = Sum.inl i ∧ RelV q.2 x ∧ h'.get? b = some { cls := .type "tuple", data := .seq #[.int i t, x] } := by
    intro j b hj
    obtain ⟨en, he, hg⟩ := hG.pairs j b hj
    have hjl : j < kvs.length := by rw [← lak]; exact (List.getElem?_eq_some_iff.mp hj).1
    have hjv : j < vs.length := by omega
    have hje : j < es.size := by omega
    have hq : kvs[j]? = some kvs[j] := List.getElem?_eq_getElem hjl
    obtain ⟨v0, hv0, e1, e2⟩ := LiI.paired_get rel hq
    obtain ⟨kis, vis⟩ := hpr.get? (e := es[j]) (by simp [hje]) (show vs[j]? = some (v0.1, v0.2) from hv0)
    rw [Array.getElem?_eq_getElem hje] at he
    have een : es[j] = en := Option.some.inj he
    have hn : ns[j]? = some ns[j] := List.getElem?_eq_getElem (by omega)
    have ek : kvs[j].1 = Sum.inl ns[j] := by
      have := congrArg (fun l => l[j]?) hkn
      simp only [List.getElem?_map, hq, hn, Option.map_some] at this
      exact Option.some.inj this
    rw [← e1, ek, een] at kis
    rw [een] at vis
    obtain ⟨t, et⟩ : ∃ t, en.key = Value.int ns[j] t := by
      have kis' : Value.isInt ns[j] en.key = true := kis
      cases hkk : en.key <;> rw [hkk] at kis' <;> simp [Value.isInt] at kis'
      rename_i i t
      exact ⟨t, by rw [kis']⟩
    refine ⟨ns[j], t, en.val, kvs[j], hn, hq, ek, by rw [vis]; exact e2, ?_⟩
    rw [hg, et]
  -- the heap of the sort
  have hob : (h'.push { cls := .type "list", data := .seq (as.map Value.ref).toArray }).get? h'.objs.size = some (seqObj "list" (as.map Value.ref).toArray 0) := Heap.get?_push_size _ rfl
  have kb : ∀ b o, s.heap.get? b = some o → (h'.push { cls := .type "list", data := .seq (as.map Value.ref).toArray }).get? b = some o := fun b o e => Heap.get?_push_of_some _ (hk b o e)
  have ne0 : ∀ b o, h'.get? b = some o → b ≠ h'.objs.size := fun b o e => Nat.ne_of_lt (Heap.lt_size e)
  generalize hh2 : h'.push { cls := .type "list", data := .seq (as.map Value.ref).toArray } = h2 at hob kb ⊢
  have ka : ∀ b o, h'.get? b = some o → h2.get? b = some o := fun b o e => by rw [← hh2]; exact Heap.get?_push_of_some _ e
  have at_ : ∀ v ∈ as.map Value.ref, ∃ (j : Nat) (b : Addr) (i : Int) (x : Value), v = .ref b ∧ as[j]? = some b ∧ ns[j]? = some i ∧ ItmAt h' v i x := by
    intro v hv'
    obtain ⟨b, hb, rfl⟩ := List.mem_map.mp hv'
    obtain ⟨j, hj⟩ := List.mem_iff_getElem?.mp hb
    obtain ⟨i, t, x, q, hn, _, _, _, hg⟩ := pr j b hj
    exact ⟨j, b, i, x, rfl, hj, hn, b, t, rfl, hg⟩
  have itm : ∀ v ∈ as.map Value.ref, ItmAt h2 v (keyZ h' v) (secZ h' v) := fun v hv' => by
    obtain ⟨j, b, i, x, _, _, _, r⟩ := at_ v hv'
    rw [r.key, r.sec]
    exact r.keeps fun b o e _ => ka b o e
  have inj : ∀ v ∈ as.map Value.ref, ∀ u ∈ as.map Value.ref, keyZ h' v = keyZ h' u → v = u := fun v hv' u hu' e => by
    obtain ⟨j, b, i, x, rfl, j1, j2, r⟩ := at_ v hv'
    obtain ⟨j', b', i', x', rfl, k1, k2, r'⟩ := at_ u hu'
    rw [r.key, r'.key] at e
    subst e
    obtain ⟨m1, m2⟩ := List.getElem?_eq_some_iff.mp j2
    obtain ⟨m3, m4⟩ := List.getElem?_eq_some_iff.mp k2
    have : j = j' := by
      rcases Nat.lt_trichotomy j j' with h | h | h
      · have := List.pairwise_iff_getElem.mp hasc j j' m1 m3 h; omega
      · exact h
      · have := List.pairwise_iff_getElem.mp hasc j' j m3 m1 h; omega
    subst this
    rw [j1] at k1; cases k1; rfl
  have asc : (as.map Value.ref).Pairwise fun x y => keyZ h' x < keyZ h' y := by
    rw [List.pairwise_iff_getElem]
    intro j j' hj hj' hlt'
    rw [List.length_map] at hj hj'
    rw [List.getElem_map, List.getElem_map]
    obtain ⟨i, t, x, _, hn, _, _, _, hg⟩ := pr j _ (List.getElem?_eq_getElem hj)
    obtain ⟨i', t', x', _, hn', _, _, _, hg'⟩ := pr j' _ (List.getElem?_eq_getElem hj')
    rw [(show ItmAt h' (.ref as[j]) i x from ⟨_, t, rfl, hg⟩).key, (show ItmAt h' (.ref as[j']) i' x' from ⟨_, t', rfl, hg'⟩).key]
    obtain ⟨m1, m2⟩ := List.getElem?_eq_some_iff.mp hn
    obtain ⟨m3, m4⟩ := List.getElem?_eq_some_iff.mp hn'
    rw [← m2, ← m4]
    exact List.pairwise_iff_getElem.mp hasc j j' m1 m3 hlt'
  refine wpAny_call_entry PyProof.Rows.slot_list_sort ⟨_, hob, rfl⟩ PyProof.Rows.entry_list_sort
    (SrtO.list_sort_ord (s := { s with heap := h2, toks := tk }) (vs := as.map Value.ref) (n := 0) (swo_key (keyZ h')) hob (by rw [List.length_map, lak]; exact Nat.le_trans (Nat.le_of_eq rfl) z) (fun h2l => itm_sortable (by omega) itm inj fun o e => by
      have : o = seqObj "list" (as.map Value.ref).toArray 0 := Option.some.inj (e.symm.trans hob)
      rw [this]
      show (Value.type "list") ≠ .type "tuple"
      decide) fun out o1 o2 => ⟨.none, rfl, ?_⟩) (PyProof.Rows.args_list_sort _)
  have eo : out = as.map Value.ref := srt_same (f := keyZ h') o2.perm (o1.imp fun h => of_decide_eq_false h) asc
  subst eo
  show EP X pins σ Q (.ref h'.objs.size) { s with heap := sortedHeap h2 h'.objs.size (as.map Value.ref) (as.map Value.ref).toArray, toks := tk }
  have kF : ∀ b o, b ≠ h'.objs.size → h2.get? b = some o → (sortedHeap h2 h'.objs.size (as.map Value.ref) (as.map Value.ref).toArray).get? b = some o := fun b o hb e => (PyProof.Rows.sortedHeap_old hb (Heap.lt_size e)).trans e
  have kS : ∀ b o, s.heap.get? b = some o → (sortedHeap h2 h'.objs.size (as.map Value.ref) (as.map Value.ref).toArray).get? b = some o := fun b o e => kF b o (ne0 _ _ (hk b o e)) (kb b o e)
  obtain ⟨eF, heF⟩ := PyProof.Rows.sortedHeap_at (vs := as.map Value.ref) (out := (as.map Value.ref).toArray) hob
  have I1 : Inv X pins σ H { s with heap := sortedHeap h2 h'.objs.size (as.map Value.ref) (as.map Value.ref).toArray, toks := tk } := I.kept (t' := tk) kS
  have hn0 : H h'.objs.size = none := I.hok.fresh (Nat.le_of_lt hlt)
  have hlen : (as.map V.ref).length ≤ sizeLine := by
    rw [List.length_map, lak]; exact z
  have I2 : Inv X pins σ (upd H h'.objs.size (.lst (as.map V.ref))) { s with heap := sortedHeap h2 h'.objs.size (as.map Value.ref) (as.map Value.ref).toArray, toks := tk } :=
    I1.take (h' := sortedHeap h2 h'.objs.size (as.map Value.ref) (as.map Value.ref).toArray) (t' := tk) (fun b ob _ e => e) (I.fpOk (Nat.le_of_lt hlt) hn0) ⟨hlen, (as.map Value.ref), eF, LiI.vals_refs as, heF⟩
  obtain ⟨H2, I3, g, qt⟩ := L2.DX.takeT (P := fun b vs => ∃ (j : Nat) (q : Key × V), as[j]? = some b ∧ kvs[j]? = some q ∧ vs = [kV q.1, q.2]) I as _ I2 nd fun b hb => by
    obtain ⟨j, hj⟩ := List.mem_iff_getElem?.mp hb
    obtain ⟨i, t, x, q, hn, hq, ek, rv, hg⟩ := pr j b hj
    have hbl : s.heap.objs.size ≤ b := Nat.le_of_lt (hG.above b hb)
    refine ⟨hbl, ?_, [kV q.1, q.2], ⟨j, q, hj, hq, rfl⟩, fun H3 => ⟨(by rw [sizeLine_eq]; show 2 ≤ 16777216; omega), [Value.int i t, x], .cons (by rw [ek]; exact ⟨t, rfl⟩) (.cons rv .nil), ⟨_, kF _ _ (ne0 _ _ hg) (ka _ _ hg), rfl, 0, rfl⟩⟩⟩
    rw [upd_ne (ne0 _ _ hg)]
    exact I.hok.fresh hbl
  have gr : ∀ b o, H b = some o → H2 b = some o := fun b o e => g b o (by rw [upd_ne (ne_of_none e hn0)]; exact e)
  refine ⟨.ref h'.objs.size, H2, I3, rfl, q H2 h'.objs.size as gr hn0 (g _ _ upd_same) (paired_of lak fun j b qq e1 e2 => ?_)⟩
  obtain ⟨vs', ⟨j', q', k1, k2, ev⟩, hH⟩ := qt b (List.mem_of_getElem? e1)
  have ejj : j = j' := (List.getElem?_inj (List.getElem?_eq_some_iff.mp e1).1 nd).mp (e1.trans k1.symm)
  subst ejj
  rw [e2] at k2
  cases k2
  rw [hH, ev]
end
end Pu

set_option autoImplicit false
namespace Pu
open PySem PySem.Spec PyProof.Rows L2
/-! ### sorted(o.items()) -/
@[reducible] def itD (p : Int × PyData) : PyData := .tuple [.int p.1, p.2]
abbrev Asc (its : List (Int × PyData)) : Prop := (its.map (·.1)).Pairwise (· < ·)
section
variable {X : Cx} {k n : Nat} {f C : Addr} {fd : FuncData} {ps : List Str} {x m : Str} {p pos apos cpos : Pos} {e o ce : Expr} {es : List Expr} {ta : TAp} {to : TEp}
@[reducible] def tSrtN (to : TEp) : TNp := fun ρ S R => to ρ S fun x S1 => match x with
  | .cel j => match cellAt S1 j with
    | some (.dic _ its) => Asc its ∧ R (its.map itD) S1
    | _ => False
  | _ => False
theorem reps_items {K : PySem.W.Frag} {H H' : Hp} (g : Ge H H') : ∀ {its : List (Int × PyData)} {kvs : List (Key × V)} {ts : List Addr}, KvR K H its kvs → Paired (fun (t : Addr) (q : Key × V) => H' t = some (.tup [kV q.1, q.2])) ts kvs → Reps K H' (its.map itD) (ts.map V.ref)
  | _, _, _, .nil, .nil => rfl
  | _, _, _, .cons (a := p) (b := q) h t, .cons (a := b) h' t' => by
    refine ⟨.ref b, _, rfl, ⟨b, [kV q.1, q.2], rfl, .inl (.inl h'), kV q.1, [q.2], rfl, by rw [h.1]; rfl, q.2, [], rfl, Rep.mono g _ _ h.2, rfl⟩, reps_items g t t'⟩
theorem wn_sortItems (ho : WE X o to) (hl : ∀ t : TE, PE X o t → PE X ce (tCB rSortK (tCons (tBM0 X.K "dict" rItK t) tNil))) : WN X ce (tSrtN to) := by
  refine ⟨fun c => pe_w (hl _ (ho.pe c)) fun σ H Q ⟨μ, ρ, S, R, f, h, q⟩ => ?_⟩
  refine ⟨μ, ρ, S, _, f, h, fun x S1 h1 μ1 v1 H1 p1 f1 r1 g1 => ?_⟩
  split at h1
  · rename_i j
    obtain ⟨a, ha, rfl⟩ := r1
    split at h1
    · rename_i d its e1
      obtain ⟨asc, hR⟩ := h1
      rw [cellAt_get] at e1
      obtain ⟨a', ha', ed, kvs, e3, rr, nd⟩ := f1.at e1
      rw [ha] at ha'; cases ha'
      refine ⟨.inr (.inr (.inl ⟨rfl, .inl ⟨kvs, e3⟩⟩)), a, kvs, rfl, rfl, e3, fun pv hp => ?_⟩
      have sm : Same H1 (upd H1 pv (L2.DX.itemsO pv a)) := same_new hp
      have hkn : ∀ {its : List (Int × PyData)} {kvs : List (Key × V)}, KvR X.K H1 its kvs → kvs.map (·.1) = (its.map (·.1)).map Sum.inl := by
        intro its kvs r
        induction r with
        | nil => rfl
        | cons h t ih => rw [List.map_cons, List.map_cons, List.map_cons, ih, h.1]
      refine ⟨pv, a, kvs, its.map (·.1), rfl, upd_same, sm _ _ e3, hkn rr, asc, fun H' l ts same hn hl pt => ?_⟩
      have sm2 : Same H1 H' := fun b ob e => same b ob (sm b ob e)
      have hn1 : H1 l = none := by
        cases z : H1 l with
        | none => rfl
        | some ob => rw [sm _ _ z] at hn; cases hn
      exact q (its.map itD) S1 hR μ1 l _ H' p1 (f1.same sm2) hl (f1.notIn hn1) (f1.noH0 hn1) (reps_items (.of_same sm2) rr pt) (g1.trans (.of_same sm2))
    · exact h1.elim
  · exact h1.elim
/-! ### methods as expressions -/
theorem w_mD (L : LCls X.K C) (nm : MNm m) {g : GD} (ho : WE X o to) (hm : Meth X.K C m f) (F : FnOkG X.prog X.w X.K X.mg X.base k f fd ps (upF X.K (gD g))) (hr : Room k X.A) (hgs : X.A.guards = some []) (hb : Binds X.K fd ps []) (ha : WA X es n ta)
    (hl : ∀ (t : TE) (u : TA), PE X o t → PA X es u → PE X ce (tMeth C m (upF X.K (gD g)) [] E0 t u)) : WE X ce (tMD g to ta) :=
  ⟨fun c => pe_w (hl _ _ (ho.pe c) (ha.pa c)) fun _ _ _ h => md_up L nm h⟩
theorem w_mN (L : LCls X.K C) (nm : MNm m) {g : GN} (ho : WE X o to) (hm : Meth X.K C m f) (F : FnOkG X.prog X.w X.K X.mg X.base k f fd ps (upF X.K (gN g))) (hr : Room k X.A) (hgs : X.A.guards = some []) (hb : Binds X.K fd ps []) (ha : WA X es n ta)
    (hl : ∀ (t : TE) (u : TA), PE X o t → PA X es u → PE X ce (tMeth C m (upF X.K (gN g)) [] E0 t u)) : WN X ce (tMN g to ta) :=
  ⟨fun c => pe_w (hl _ _ (ho.pe c) (ha.pa c)) fun _ _ _ h => mn_up L nm h⟩
theorem w_mL (L : LCls X.K C) (nm : MNm m) {g : GL} (ho : WE X o to) (hm : Meth X.K C m f) (F : FnOkG X.prog X.w X.K X.mg X.base k f fd ps (upF X.K (gL g))) (hr : Room k X.A) (hgs : X.A.guards = some []) (hb : Binds X.K fd ps []) (ha : WA X es n ta)
    (hl : ∀ (t : TE) (u : TA), PE X o t → PA X es u → PE X ce (tMeth C m (upF X.K (gL g)) [] E0 t u)) : WE X ce (tML g to ta) :=
  ⟨fun c => pe_w (hl _ _ (ho.pe c) (ha.pa c)) fun _ _ _ h => ml_up L nm h⟩
theorem up_mono {K : PySem.W.Frag} {c : FP} {t : TEp} {σ : L2.St} {H : Hp} {Q Q' : VK} (hq : ∀ v H', Q v H' → Q' v H') (h : up K c t σ H Q) : up K c t σ H Q' := by
  obtain ⟨μ, ρ, S, R, f, h, q⟩ := h
  exact ⟨μ, ρ, S, R, f, h, fun pv S' hR μ' v H' p f' r g => hq _ _ (q pv S' hR μ' v H' p f' r g)⟩
theorem upA_nil {K : PySem.W.Frag} {c : FP} {σ : L2.St} {H : Hp} {Q : List V → Hp → Prop} (h : upA K c 0 tAnil σ H Q) : tNil σ H Q := by
  obtain ⟨μ, ρ, S, R, f, h, q⟩ := h
  exact q [] S h rfl μ [] H (.refl _) f .nil (.refl _)
theorem meth_nil {K : PySem.W.Frag} {c : FP} {sp : Sp} {E : XK} {σ : L2.St} {H : Hp} {Q : VK} (h : tMeth C m sp [] E (up K c to) (upA K c 0 tAnil) σ H Q) : tMeth C m sp [] E (up K c to) tNil σ H Q :=
  up_mono (fun v H' ⟨a, dx, fs, e1, e2, e3, e4⟩ => ⟨a, dx, fs, e1, e2, e3, upA_nil e4⟩) h
theorem w_mD0 (L : LCls X.K C) (nm : MNm m) {g : GD} (ho : WE X o to) (hl : ∀ t : TE, PE X o t → PE X ce (tMeth C m (upF X.K (gD g)) [] E0 t tNil)) : WE X ce (tMD g to tAnil) :=
  ⟨fun c => pe_w (hl _ (ho.pe c)) fun _ _ _ h => meth_nil (md_up (n := 0) L nm h)⟩
theorem w_mN0 (L : LCls X.K C) (nm : MNm m) {g : GN} (ho : WE X o to) (hl : ∀ t : TE, PE X o t → PE X ce (tMeth C m (upF X.K (gN g)) [] E0 t tNil)) : WN X ce (tMN g to tAnil) :=
  ⟨fun c => pe_w (hl _ (ho.pe c)) fun _ _ _ h => meth_nil (mn_up (n := 0) L nm h)⟩
theorem w_mL0 (L : LCls X.K C) (nm : MNm m) {g : GL} (ho : WE X o to) (hl : ∀ t : TE, PE X o t → PE X ce (tMeth C m (upF X.K (gL g)) [] E0 t tNil)) : WE X ce (tML g to tAnil) :=
  ⟨fun c => pe_w (hl _ (ho.pe c)) fun _ _ _ h => meth_nil (ml_up (n := 0) L nm h)⟩
/-! ### Ledger() -/
def spInit (C : Addr) : Sp := fun vs H Q _ => ∃ (p dx : Addr), vs = [.ref p] ∧ H p = some (.ins C dx []) ∧ ∀ (d : Addr) (H' : Hp), H d = none → H' p = some (.ins C dx (lfs d 0)) → H' d = some (.dK []) → (∀ b o, H b = some o → b ≠ p → H' b = some o) → Q .non H'
@[reducible] def tMk : TEp := fun _ S R => ∀ d, R (.cel (lenS S)) (snocS (snocS S (.led d 0)) (.dic d []))
theorem w_mk (L : LCls X.K C) (M : Mk X.K C f) (F : FnOk X.prog X.w X.K X.mg X.base CX0 1 f fd ["self"] (spInit C)) (hr : Room 2 X.A) (hg : Gl X x) (hm : X.mg x = some (.ref C)) (hb : Binds X.K fd ["self"] []) (hdb : (x == ("__debug__" : Str)) = false := by decide) : WE X (.Call (.Name x p) [] [] pos) tMk := by
  refine ⟨fun c => pe_w (pe_make0 M F hr hg hm hb .nil (E := E0) pass0 hdb) fun σ H Q ⟨μ, ρ, S, R, f, h, q⟩ => ?_⟩
  intro z dx nz ndx nez
  refine ⟨z, dx, rfl, upd_same, fun d H1 hd e1 e2 kp => ⟨rfl, ?_⟩⟩
  have s0 : Same H (upd (upd H dx (.own z)) z (.ins C dx [])) := fun b o e => by
    rw [upd_ne (ne_of_none e nz), upd_ne (ne_of_none e ndx)]
    exact e
  have s1 : Same H H1 := fun b o e => kp b o (s0 b o e) (ne_of_none e nz)
  have nd0 : H d = none := by
    cases y : H d with
    | none => rfl
    | some o => rw [s0 _ _ y] at hd; cases hd
  have zd : d ≠ z := fun e => by subst e; rw [e1] at e2; cases e2
  have f2 := (f.same s1).newC (x := .led d 0) (p := z) ⟨C, dx, e1, L.ns⟩ (f.notIn nz) (f.noH0 nz)
  have f3 := f2.newC (x := .dic d []) (p := d) ⟨rfl, [], e2, .nil, List.nodup_nil⟩ (by
    rw [List.mem_append, not_or]
    exact ⟨f.notIn nd0, by simpa using zd⟩) (f.noH0 nd0)
  refine q _ _ (h d) (μ ++ [z] ++ [d]) (.ref z) H1 ⟨[z, d], by simp⟩ f3 ⟨z, ?_, rfl⟩ (.of_same s1)
  rw [lenS_eq, paired_len f.cel, List.append_assoc]; simp
/-- len(d) -/
@[reducible] def tLenD (to : TEp) : TEp := fun ρ S R => to ρ S fun x S1 => match x with
  | .cel j => match cellAt S1 j with
    | some (.dic _ its) => R (.d (.int its.length)) S1
    | _ => False
  | _ => False
theorem w_lenD (ho : WE X o to) (hl : ∀ t : TE, PE X o t → PE X ce (tCB (fun xs H Q => ∃ a kvs, xs = [V.ref a] ∧ H a = some (.dK kvs) ∧ Q (.int kvs.length) H) (tCons t tNil))) : WE X ce (tLenD to) := by
  refine ⟨fun c => pe_w (hl _ (ho.pe c)) fun σ H Q ⟨μ, ρ, S, R, f, h, q⟩ => ?_⟩
  refine ⟨μ, ρ, S, _, f, h, fun x S1 h1 μ1 v1 H1 p1 f1 r1 g1 => ?_⟩
  split at h1
  · rename_i j
    obtain ⟨a, ha, rfl⟩ := r1
    split at h1
    · rename_i d its e1
      rw [cellAt_get] at e1
      obtain ⟨a', ha', ed, kvs, e3, rr, nd⟩ := f1.at e1
      rw [ha] at ha'; cases ha'
      refine ⟨a, kvs, rfl, e3, ?_⟩
      exact q (.d (.int its.length)) S1 h1 μ1 _ H1 p1 f1 (by show _ = V.int _; rw [paired_len rr]) g1
    · exact h1.elim
  · exact h1.elim
end
section
variable {P : Program} {w : World} {K : PySem.W.Frag} {mg : Str → Option Value} {base : Heap}
/-- __init__: an empty dict, the number 0 -/
theorem ok_ledInit {st : Stmt} {f C : Addr} {fd : FuncData} {p1 p2 p3 p4 p5 p6 p7 p8 : Pos} {j : Nat} (F : Fun K "__init__" "Ledger.__init__" st f fd) (Sc : FnScope ["self"] ["self"] (defScope st)) (L : LCls K C) (hl : (defScope st).names.lookup ("self" : Str) = some .local)
    (hb : defBody st = [.Assign [.Attribute (.Name "self" p1) "present" p2] (.Dict [] [] p3) p4, .Assign [.Attribute (.Name "self" p5) "coming" p6] (.Constant (.int 0) j p7) p8]) : FnOk P w K mg base CX0 1 f fd ["self"] (spInit C) := by
  refine F.ok Sc (fun vs H Q E h => ?_) (fun cdv A outer s H vs Q E hr h => ?_)
  · obtain ⟨p, dx, rfl, _⟩ := h
    rfl
  · obtain ⟨p, dx, rfl, hp, k⟩ := h
    rw [hb]
    refine ⟨_, pss_cons (ps_fld (pv 0 (hv := .inl hl)) pe_dnewK rfl) (pss_one (ps_fld (pv 0 (hv := .inl hl)) pe_int rfl)), ?_⟩
    intro d hd
    have npd : p ≠ d := ne_of_none hp hd
    refine ⟨_, rfl, p, C, dx, [], rfl, (by rw [upd_ne npd]; exact hp), L.cl, L.nP, (by show 0 < 1000; decide), _, rfl, p, C, dx, _, rfl, upd_same, L.cl, L.nC, (by show 1 < 1000; decide), ?_⟩
    refine k d _ hd (by rw [upd_same, lfs_eq]) (by rw [upd_ne npd.symm, upd_ne npd.symm, upd_same]) fun b o e hb => ?_
    rw [upd_ne hb, upd_ne hb, upd_ne (ne_of_none e hd)]
    exact e
end

/-! ### a constant dict: texts to ints -/
def lookS : List (Str × Int) → Str → Option PyData
  | [], _ => none
  | p :: r, z => if p.1 = z then some (.int p.2) else lookS r z
structure CDict (K : PySem.W.Frag) (w : World) (mg : Str → Option Value) (x : Str) (ps : List (Str × Int)) : Prop where
  ex : ∃ r, mg x = some (.ref r) ∧ ∀ p ∈ ps, KDct K w r p.1 (V.int p.2)
section
variable {X : Cx} {i : Expr} {ti : TEp} {x : Str} {p pos : Pos} {ps : List (Str × Int)}
@[reducible] def tCDict (ps : List (Str × Int)) (ti : TEp) : TEp := fun ρ S R => ti ρ S fun y S1 => match y with
  | .d (.str z) => onS (lookS ps z) fun v => R (.d v) S1
  | _ => False
theorem lookS_mem {z : Str} {v : PyData} : ∀ {ps : List (Str × Int)}, lookS ps z = some v → ∃ k, (z, k) ∈ ps ∧ v = .int k
  | [], h => by simp [lookS] at h
  | p :: r, h => by
    rw [lookS] at h
    split at h
    · rename_i e
      cases h
      exact ⟨p.2, by rw [← e]; simp, rfl⟩
    · obtain ⟨k, h1, h2⟩ := lookS_mem h
      exact ⟨k, List.mem_cons_of_mem _ h1, h2⟩
theorem w_cdict (h : CDict X.K X.w X.mg x ps) (hg : Gl X x) (hi : WE X i ti) (hs : PlainIx i) (hd : (x == ("__debug__" : Str)) = false := by decide) : WE X (.Subscript (.Name x p) i pos) (tCDict ps ti) := by
  obtain ⟨r, hm, hk⟩ := h.ex
  refine ⟨fun c => pe_w (pe_ix ix_kdict (pe_glob (v := .ref r) hg hm rfl hd) (hi.pe c) hs) fun σ H Q ⟨μ, ρ, S, R, f, h, q⟩ => ?_⟩
  refine ⟨μ, ρ, S, _, f, h, fun y S1 h1 μ1 v1 H1 p1 f1 r1 g1 => ?_⟩
  split at h1
  · rename_i z
    unfold onS at h1
    obtain ⟨v, ev, hR⟩ := h1
    obtain ⟨k, hkm, rfl⟩ := lookS_mem ev
    exact ⟨r, z, .int k, rfl, r1, hk _ hkm, q _ S1 hR μ1 _ H1 p1 f1 rfl g1⟩
  · exact h1.elim
end

theorem cdict2 {K : PySem.W.Frag} {w : World} {mg : Str → Option Value} {x z1 z2 : Str} {r : Addr} {es : Array DictEntry} {n : Nat} {i1 i2 : Int} {t1 t2 : Tok} (h : mg x = some (.ref r)) (l : K.lookup r = some ⟨.type "dict", none, .dict es n, #[]⟩) (k : PySem.W.KeysLit w.params es.toList)
    (e1 : PySem.W.nsIn K r z1 = some (some (.int i1 t1))) (e2 : PySem.W.nsIn K r z2 = some (some (.int i2 t2))) : CDict K w mg x [(z1, i1), (z2, i2)] := by
  refine ⟨r, h, fun p hp => ?_⟩
  rcases List.mem_cons.mp hp with rfl | hp
  · exact ⟨es, n, _, l, k, e1, t1, rfl⟩
  · rw [List.mem_singleton] at hp
    subst hp
    exact ⟨es, n, _, l, k, e2, t2, rfl⟩
end Pu

set_option autoImplicit false
namespace Pu
open PySem PySem.Spec PyProof.Rows L2
/-! ### dicts of ints -/
@[reducible] def dctD (ps : List (Int × Int)) : PyData := .dict (ps.map fun p => (.int p.1, .int p.2))
@[reducible] def itsI (ps : List (Int × Int)) : List (Int × PyData) := ps.map fun p => (p.1, .int p.2)
def dctK (ps : List (Int × Int)) : List (Key × V) := ps.map fun p => (Sum.inl p.1, V.int p.2)
/-- the value at a key -/
def valP : List (Int × Int) → Int → Option Int
  | [], _ => none
  | p :: r, k => if p.1 = k then some p.2 else valP r k
theorem valP_V (k : Int) : ∀ ps : List (Int × Int), valV (dctK ps) (Sum.inl k : Key) = (valP ps k).map V.int
  | [] => rfl
  | p :: r => by
    unfold valP
    by_cases h : p.1 = k
    · rw [if_pos h]
      exact valV_pos (by show Sum.inl p.1 = _; rw [h])
    · rw [if_neg h, ← valP_V k r]
      exact valV_neg (fun z => h (inl_iff.mp z))
theorem valP_mem {ps : List (Int × Int)} {k : Int} : (valP ps k).isSome = decide (k ∈ ps.map (·.1)) := by
  induction ps with
  | nil => rfl
  | cons p r ih =>
    unfold valP
    by_cases h : p.1 = k
    · rw [if_pos h]; simp [h]
    · rw [if_neg h, ih]
      simp only [List.map_cons, List.mem_cons, decide_eq_decide]
      exact ⟨.inr, fun z => z.resolve_left fun e => h e.symm⟩
theorem valP_in {ps : List (Int × Int)} {k v : Int} (h : valP ps k = some v) : (k, v) ∈ ps := by
  induction ps with
  | nil => simp [valP] at h
  | cons p r ih =>
    unfold valP at h
    split at h
    · rename_i e
      cases h
      exact List.mem_cons.mpr (.inl (by rw [← e]))
    · exact List.mem_cons_of_mem _ (ih h)
theorem kvr_ints {K : PySem.W.Frag} {H : Hp} : ∀ {ps : List (Int × Int)} {kvs : List (Key × V)}, KvR K H (itsI ps) kvs → kvs = dctK ps
  | [], _, .nil => rfl
  | p :: ps, _, .cons (b := q) h t => by
    have ih := kvr_ints t
    have e : q = (Sum.inl p.1, V.int p.2) := Prod.ext h.1 h.2
    rw [ih, e]; rfl
section
variable {X : Cx} {a b e o i : Expr} {ta tb te to ti : TEp} {pos pos' : Pos}
/-- {} -/
@[reducible] def tDN : TEp := fun _ S R => ∀ d, R (.cel (lenS S)) (snocS S (.dic d []))
theorem w_dnew : WE X (.Dict [] [] pos) tDN := by
  refine ⟨fun c => pe_w pe_dnewK fun σ H Q ⟨μ, ρ, S, R, f, h, q⟩ => fun p hp => ?_⟩
  have f1 := (f.same (same_new (o := .dK []) hp)).newC (x := .dic p []) (p := p) ⟨rfl, [], upd_same, .nil, List.nodup_nil⟩ (f.notIn hp) (f.noH0 hp)
  exact q _ _ (h p) (μ ++ [p]) (.ref p) _ ⟨[p], rfl⟩ f1 ⟨p, by rw [lenS_eq, paired_len f.cel]; simp, rfl⟩ (.of_same (same_new hp))
/-- d.setdefault(k, v) -/
@[reducible] def tSetd (to ti te : TEp) : TEp := fun ρ S R => to ρ S fun o S1 => match o with
  | .cel j => match cellAt S1 j with
    | some (.dic _ _) => ti ρ S1 fun i S2 => te ρ S2 fun y S3 => match i, y, cellAt S3 j with
      | .d (.int k), .d y, some (.dic d its) => its.length < 1000 ∧ (∀ z, valL its k = some z → R (.d z) S3) ∧ (valL its k = none → R (.d y) (setS S3 j (.dic d (putL its k y))))
      | _, _, _ => False
    | _ => False
  | _ => False
theorem kvr_valN {K : PySem.W.Frag} {H : Hp} {its : List (Int × PyData)} {kvs : List (Key × V)} (h : KvR K H its kvs) {k : Int} {v : V} (e : valV kvs (Sum.inl k : Key) = Option.some v) : ∃ y, valL its k = Option.some y ∧ Rep K H y v := by
  cases z : valL its k with
  | some y =>
    obtain ⟨v', e', r⟩ := h.val z
    rw [e] at e'; cases e'
    exact ⟨y, rfl, r⟩
  | none =>
    have w := KvR.some h k
    rw [e] at w
    have hn : hasL its k = false := by
      unfold valL at z
      unfold hasL
      rw [Option.map_eq_none_iff, List.find?_eq_none] at z
      rw [List.any_eq_false]
      exact z
    rw [hn] at w
    cases w
theorem w_setd {apos cpos : Pos} (ho : WE X o to) (hi : WE X i ti) (he : WE X e te) (m : M2 X o "setdefault" apos i e cpos) : WE X (.Call (.Attribute o "setdefault" apos) [i, e] [] cpos) (tSetd to ti te) := by
  refine ⟨fun c => pe_w (pe_dsetd (ho.pe c) (hi.pe c) (he.pe c) m) fun σ H Q ⟨μ, ρ, S, R, f, h, q⟩ => ?_⟩
  refine ⟨μ, ρ, S, _, f, h, fun ov S1 h1 μ1 v1 H1 p1 f1 r1 g1 => ?_⟩
  split at h1
  · rename_i j
    obtain ⟨a, ha, rfl⟩ := r1
    split at h1
    · rename_i d its e1
      rw [cellAt_get] at e1
      obtain ⟨a', ha', ed, kvs, e3, rr, nd⟩ := f1.at e1
      rw [ha] at ha'; cases ha'
      refine ⟨a, rfl, .inl ⟨kvs, .inl e3⟩, μ1, ρ, S1, _, f1, h1, fun iv S2 h2 μ2 v2 H2 p2 f2 r2 g2 => ⟨μ2, ρ, S2, _, f2, h2, fun y S3 h3 μ3 v3 H3 p3 f3 r3 g3 => ?_⟩⟩
      split at h3
      · rename_i k y d2 its2 e4
        obtain ⟨hl, hA, hB⟩ := h3
        rw [cellAt_get] at e4
        obtain ⟨a2, ha2, ed2, kvs2, e5, rr2, nd2⟩ := f3.at e4
        have ha3 := p3.get (p2.get ha)
        rw [ha3] at ha2; cases ha2
        subst ed2
        have r2' : v2 = V.int k := r2
        subst r2'
        refine ⟨kvs2, Sum.inl k, e5, rfl, by rw [← paired_len rr2]; exact small1000 (Nat.le_of_lt hl), fun v hv => ?_, fun hn => ?_⟩
        · obtain ⟨z, ez, rz⟩ := kvr_valN rr2 hv
          exact q _ _ (hA z ez) μ3 v H3 (p1.trans (p2.trans p3)) f3 rz (g1.trans (g2.trans g3))
        · have en : valL its2 k = none := by
            cases z : valL its2 k with
            | none => rfl
            | some y =>
              obtain ⟨v', e', _⟩ := KvR.val rr2 z
              rw [hn] at e'; cases e'
          obtain ⟨f4, g4⟩ := f3.writeO (o := .dK (putK kvs2 (Sum.inl k) v3)) (y := .dic a (putL its2 k y)) ha3 e5 (fun _ => by simp) (fun _ _ => by simp) fun g => ⟨rfl, _, upd_same, KvR.mono g (KvR.put rr2 r3), putL_nd nd2⟩
          exact q _ _ (hB en) μ3 v3 _ (p1.trans (p2.trans p3)) f4 (Rep.mono g4 _ _ r3) (g1.trans (g2.trans (g3.trans g4)))
      · exact h3.elim
    · exact h1.elim
  · exact h1.elim
/-- a dict is handed on as data: locked -/
@[reducible] def tFzK (t : TEp) : TEp := fun ρ S R => t ρ S fun x S1 => match x with
  | .cel j => match cellAt S1 j with
    | some (.dic _ its) => ∃ ps, its = itsI ps ∧ R (.d (dctD ps)) (setS S1 j (.fdi ps))
    | some (.fdi ps) => R (.d (dctD ps)) S1
    | _ => False
  | .d y => R (.d y) S1
theorem pe_lockK {t : TE} (h : PE X e t) : PE X e (fun σ H Q => t σ H fun v H1 => Q v H1 ∨ ∃ a kvs, v = .ref a ∧ H1 a = some (.dK kvs) ∧ ∀ o, Q v (upd H1 a (.frz o (.dK kvs)))) := by
  refine ⟨fun pins s σ H Q I q => thn (h.run pins s σ H _ I q) fun u s1 ⟨v, H1, I1, r, q1⟩ => ?_⟩
  rcases q1 with q1 | ⟨a, vs, rfl, ha, q1⟩
  · exact ⟨v, H1, I1, r, q1⟩
  · obtain ⟨o, I2⟩ := L2.Inv.lock I1 ha trivial
    exact ⟨.ref a, _, I2, r, q1 o⟩
theorem w_fzK (h : WE X e te) : WE X e (tFzK te) := by
  refine ⟨fun c => pe_w (pe_lockK (h.pe c)) fun σ H Q ⟨μ, ρ, S, R, f, h, q⟩ => ?_⟩
  refine ⟨μ, ρ, S, _, f, h, fun x S1 h1 μ1 v1 H1 p1 f1 r1 g1 => ?_⟩
  cases x with
  | d y => exact .inl (q _ S1 h1 μ1 v1 H1 p1 f1 r1 g1)
  | cel j =>
    obtain ⟨a, ha, rfl⟩ := r1
    have h1 : match cellAt S1 j with
      | some (.dic _ its) => ∃ ps, its = itsI ps ∧ R (.d (dctD ps)) (setS S1 j (.fdi ps))
      | some (.fdi ps) => R (.d (dctD ps)) S1
      | _ => False := h1
    split at h1
    · rename_i d its e1
      obtain ⟨ps, rfl, h1⟩ := h1
      rw [cellAt_get] at e1
      obtain ⟨a', ha', ed, kvs, e3, rr, nd⟩ := f1.at e1
      rw [ha] at ha'; cases ha'
      have ek := kvr_ints rr
      subst ek
      refine .inr ⟨a, _, rfl, e3, fun ob => ?_⟩
      obtain ⟨f4, g4⟩ := f1.writeO (o := .frz ob (.dK (dctK ps))) (y := .fdi ps) ha e3 (fun _ => by simp) (fun _ _ => by simp) fun g => ⟨ob, upd_same⟩
      exact q _ _ h1 μ1 (.ref a) _ p1 f4 ⟨a, ps, rfl, ⟨ob, upd_same⟩, rfl⟩ (g1.trans g4)
    · rename_i ps e1
      rw [cellAt_get] at e1
      obtain ⟨a', ha', ob, e3⟩ := f1.at e1
      rw [ha] at ha'; cases ha'
      exact .inl (q _ S1 h1 μ1 _ H1 p1 f1 ⟨a, ps, rfl, ⟨ob, e3⟩, rfl⟩ g1)
    · exact h1.elim
/-- d[k], k in d, sorted(d) -/
structure OnDct (kvs : List (PyData × PyData)) (p : List (Int × Int) → Prop) : Prop where
  ex : ∃ ps : List (Int × Int), kvs = (ps.map fun p => (.int p.1, .int p.2)) ∧ p ps
theorem dct_uniq {ps qs : List (Int × Int)} (h : (qs.map fun p => ((.int p.1, .int p.2) : PyData × PyData)) = ps.map fun p => (.int p.1, .int p.2)) : qs = ps := by
  induction qs generalizing ps with
  | nil => cases ps with
    | nil => rfl
    | cons p ps => simp at h
  | cons p qs ih => cases ps with
    | nil => simp at h
    | cons p' ps =>
      simp only [List.map_cons, List.cons.injEq, Prod.mk.injEq, PyData.int.injEq] at h
      rw [ih h.2, Prod.ext h.1.1 h.1.2]
@[reducible] def tDIx (to ti : TEp) : TEp := fun ρ S R => to ρ S fun x S1 => ti ρ S1 fun y S2 => match x, y with
  | .d (.dict kvs), .d (.int k) => OnDct kvs fun ps => ∃ v, valP ps k = some v ∧ R (.d (.int v)) S2
  | _, _ => False
theorem w_dix {k : Nat} (hr : Room k X.A) (ho : WE X o to) (hi : WE X i ti) (hs : NoSl i) : WE X (.Subscript o i pos) (tDIx to ti) := by
  refine ⟨fun c => pe_w (pe_dget (hu_of hr) (ho.pe c) (hi.pe c) hs) fun σ H Q ⟨μ, ρ, S, R, f, h, q⟩ => ?_⟩
  refine ⟨μ, ρ, S, _, f, h, fun x S1 h1 μ1 v1 H1 p1 f1 r1 g1 => ⟨μ1, ρ, S1, _, f1, h1, fun y S2 h2 μ2 v2 H2 p2 f2 r2 g2 => ?_⟩⟩
  split at h2
  · rename_i kvs k
    obtain ⟨ps, ek0, v, hv, hR⟩ := h2.ex
    subst ek0
    obtain ⟨a, qs, rfl, ⟨ob, ea⟩, ek⟩ := r1.mono g2 p2
    have er := dct_uniq ek.symm
    subst er
    have r2' : v2 = V.int k := r2
    subst r2'
    refine ⟨a, V.int v, rfl, .inl ⟨dctK qs, Sum.inl k, .inr ⟨ob, ea⟩, rfl, ?_⟩, q _ S2 hR μ2 _ H2 (p1.trans p2) f2 rfl (g1.trans g2)⟩
    rw [valP_V, hv]; rfl
  · exact h2.elim
@[reducible] def tInK (g : Bool → Bool) (ti to : TEp) : TTp := fun ρ S R => ti ρ S fun i S1 => to ρ S1 fun o S2 => match i, o with
  | .d (.int k), .d (.dict kvs) => OnDct kvs fun ps => R (g (decide (k ∈ ps.map (·.1)))) S2
  | _, _ => False
theorem wt_inK {k : Nat} (hr : Room k X.A) (ha : WE X i ti) (hb : WE X o to) (hm : behindInMarks .In o = false := by rfl) : WT X (.Compare i [.In] [o] pos) (tInK (fun b => b) ti to) := by
  refine ⟨fun c => pt_w (pt_cmp (pc_din (hu_of hr) (ha.pe c) (hb.pe c)) hm) fun σ H Q ⟨μ, ρ, S, R, f, h, q⟩ => ?_⟩
  refine ⟨μ, ρ, S, _, f, h, fun iv S1 h1 μ1 v1 H1 p1 f1 r1 g1 => ⟨μ1, ρ, S1, _, f1, h1, fun ov S2 h2 μ2 v2 H2 p2 f2 r2 g2 => ?_⟩⟩
  split at h2
  · rename_i k kvs
    obtain ⟨ps, ek0, hR⟩ := h2.ex
    subst ek0
    obtain ⟨a, qs, rfl, ⟨ob, ea⟩, ek⟩ := r2
    have er := dct_uniq ek.symm
    subst er
    have r1' : v1 = V.int k := r1
    subst r1'
    refine ⟨a, _, rfl, .inl ⟨dctK qs, Sum.inl k, .inr ⟨ob, ea⟩, rfl, rfl⟩, _, rfl, ?_⟩
    rw [valP_V, Option.isSome_map, valP_mem]
    exact q _ S2 hR μ2 H2 (p1.trans p2) f2 (g1.trans g2)
  · exact h2.elim
@[reducible] def tSrtK (to : TEp) : TNp := fun ρ S R => to ρ S fun x S1 => match x with
  | .d (.dict kvs) => OnDct kvs fun ps => ps.length < 64 ∧ ∀ ys : List Int, ys.Perm (ps.map (·.1)) → ys.Pairwise (· ≤ ·) → R (ys.map PyData.int) S1
  | _ => False
theorem wn_sortK {ce : Expr} (ho : WE X o to) (hl : ∀ t : TE, PE X o t → PE X ce (tCB (fun xs H Q => ∃ (a : Addr) (kvs : List (Key × V)) (ks : List Int), xs = [.ref a] ∧ Rd H a (.dK kvs) ∧ kvs.map (·.1) = ks.map Sum.inl ∧ ks.length < 64 ∧
    ∀ (ys : List Int) (p : Addr), ys.Perm ks → ys.Pairwise (· ≤ ·) → H p = none → Q (.ref p) (upd H p (.lst (ys.map V.int)))) (tCons t tNil))) : WN X ce (tSrtK to) := by
  refine ⟨fun c => pe_w (hl _ (ho.pe c)) fun σ H Q ⟨μ, ρ, S, R, f, h, q⟩ => ?_⟩
  refine ⟨μ, ρ, S, _, f, h, fun x S1 h1 μ1 v1 H1 p1 f1 r1 g1 => ?_⟩
  split at h1
  · rename_i kvs
    obtain ⟨ps, rfl, hl64, hR⟩ := h1.ex
    obtain ⟨a, qs, rfl, ⟨ob, ea⟩, ek⟩ := r1
    have er := dct_uniq ek.symm
    subst er
    refine ⟨a, dctK qs, qs.map (·.1), rfl, .inr ⟨ob, ea⟩, by unfold dctK; rw [List.map_map, List.map_map]; rfl, by rw [List.length_map]; exact hl64, fun ys p hp hs hn => ?_⟩
    exact q _ S1 (hR ys hp hs) μ1 p _ _ p1 (f1.same (same_new hn)) upd_same (f1.notIn hn) (f1.noH0 hn) (Reps.of_ints) (g1.trans (.new hn))
  · exact h1.elim
/-! ### a list that may be locked, times an int -/
def rRepL (K : PySem.W.Frag) : R2 := fun x y H Q => ∃ l k xs, x = .ref l ∧ y = .int k ∧ RdL K H l xs ∧ (-(2 ^ 63) ≤ k ∧ k < 2 ^ 63) ∧ xs.length * k.toNat ≤ sizeLine ∧
  ∀ p, H p = none → Q (.ref p) (upd H p (.lst (List.replicate k.toNat xs).flatten))
theorem rep_fold (its : List Value) (m : Nat) : List.foldl (· ++ ·) #[] (List.replicate m its.toArray) = (List.replicate m its).flatten.toArray := by
  simpa using L2.foldl_rep its m []
theorem rep_fold' (its : List Value) (m : Nat) : List.foldl (· ++ ·) #[] (List.replicate (if its.toArray.isEmpty = true then 0 else m) its.toArray) = (List.replicate m its).flatten.toArray := by
  rw [rep_fold]
  cases its with
  | nil => simp
  | cons a r => simp
theorem op_repL : OpR X (binaryOp .Mult) (rRepL X.K) := by
  intro pins s σ H x y v u Q I rx ry h
  obtain ⟨l, k, xs, rfl, rfl, hl, ⟨b1, b2⟩, hz, q⟩ := h
  obtain ⟨t, rfl⟩ := ry
  cases rx
  obtain ⟨its, n, r, e⟩ := rd_lst I hl
  have ln := r.length
  have hz' : its.toArray.size * k.toNat ≤ sizeLine := by rw [List.size_toArray, ← ln]; exact hz
  have cap : ¬ its.toArray.size * k.toNat > (2 ^ 63 - 1) / 8 := by have : (sizeLine : Nat) ≤ (2 ^ 63 - 1) / 8 := by decide
                                                                   omega
  have fit : ¬ (!Builtin.List.listFitsIndex k) = true := by rw [fitsIndex_both b1 b2]; exact Bool.false_ne_true
  have lng : ¬ Builtin.List.listTooLong (its.toArray.size * k.toNat) = true := by rw [notLongL hz']; exact Bool.false_ne_true
  refine wpAny_binaryOp_repeat_ref (U := "int") (T := "list") (by decide) ⟨_, e, rfl⟩ (fun s' => typeIs_int s' k t) noFill_list_mul
    F.fills_int_mul F.slot_int_rmul repeat_list F.slot_int_index.lookup ?_
  refine call_meets F.slot_int_rmul (typeIs_int s k t) F.entry_int_rmul (F.args_int_rmul_2 _ _) (int___rmul___int_list k t l its.toArray n) ⟨e, rfl, ⟨_, e, rfl⟩, ?_⟩
  refine call_meets F.slot_list_mul ⟨_, e, rfl⟩ F.entry_list_mul (F.args_list_mul_2 _ _)
    (AutoListH.list___mul___list_int_3 l its.toArray n k t fit cap lng) ⟨e, ?_⟩
  rw [rep_fold']
  exact ⟨.ref _, _, I.lnew (t' := s.toks) (r.rep k.toNat) (by rw [PyProof.Rows.lm_len_rep_flat, Nat.mul_comm]; exact hz), rfl, q _ I.fresh⟩
@[reducible] def dRepL : OpD := fun x y k => match x, y with
  | .list xs, .int n => ((-(2 ^ 63) ≤ n ∧ n < 2 ^ 63) ∧ xs.length * n.toNat ≤ sizeLine) ∧ k (.list (List.replicate n.toNat xs).flatten)
  | _, _ => False
theorem ok_repL : OpdOk X.K (rRepL X.K) dRepL := by
  intro H x y vx vy k Q rx ry h q
  unfold dRepL at h
  split at h
  · rename_i xs n
    obtain ⟨l, us, rfl, s1, r1⟩ := rx
    exact ⟨l, n, us, rfl, ry, s1, h.1.1, by rw [← r1.length]; exact h.1.2, fun p hp => q.new _ p _ h.2 hp (r1.rep n.toNat)⟩
  · exact h.elim
theorem w_repL (ha : WE X a ta) (hb : WE X b tb) : WE X (.BinOp a .Mult b pos) (tBin dRepL ta tb) := w_bin op_repL ok_repL ha hb
/-- a list, or another one if it is empty -/
@[reducible] def tOrL (ta tb : TEp) : TEp := fun ρ S R => ta ρ S fun x S1 => match x with
  | .d (.list xs) => Br xs.isEmpty (tb ρ S1 R) (R (.d (.list xs)) S1)
  | _ => False
theorem we_orL {rest : List Expr} (ha : WE X a ta) (hb : WE X (.BoolOp .Or (b :: rest) pos) tb) : WE X (.BoolOp .Or (a :: b :: rest) pos) (tOrL ta tb) := by
  refine ⟨fun c => pe_w (pe_orT (ha.pe c) (hb.pe c)) fun σ H Q ⟨μ, ρ, S, R, f, h, q⟩ => ?_⟩
  refine ⟨μ, ρ, S, _, f, h, fun x S1 h1 μ1 v1 H1 p1 f1 r1 g1 => ?_⟩
  split at h1
  · rename_i xs
    obtain ⟨l, us, rfl, s, rr⟩ := r1
    have el : us.isEmpty = xs.isEmpty := by
      cases xs with
      | nil => rw [show us = [] from rr]; rfl
      | cons x xs => obtain ⟨_, _, e, _⟩ := rr; rw [e]; rfl
    refine ⟨!us.isEmpty, .inl ⟨us, s.seq, rfl⟩, ?_⟩
    rw [el]
    cases e : xs.isEmpty with
    | true =>
      rw [e] at h1
      exact iteF ⟨μ1, ρ, S1, R, f1, h1, q.sub p1 g1⟩
    | false =>
      rw [e] at h1
      exact iteT (q _ S1 h1 μ1 _ H1 p1 f1 ⟨l, us, rfl, s, rr⟩ g1)
  · exact h1.elim
end
end Pu

namespace Claim
open PySem PySem.Spec PyProof.Rows L2 Pu
open PySem.W (alike alike_unique AlikeAll minD maxD min_list_default max_list_default minD_ints reads_keeps dataLt)
/-! ### small facts -/
theorem mulP {i j : Int} {m n : Nat} (hi : i.natAbs < 2 ^ m) (hj : j.natAbs < 2 ^ n) (h : m + n < 1000000 := by decide) : CMulP i j := by
  have f : ∀ (x k : Nat), x < 2 ^ k → x.log2 ≤ k := fun x k hx => by
    by_cases h0 : x = 0
    · subst h0; simp
    · exact Nat.le_of_lt ((Nat.log2_lt h0).mpr hx)
  have a := f _ _ hi
  have b := f _ _ hj
  unfold CMulP
  omega
theorem logP {i : Int} {m : Nat} (hi : i.natAbs < 2 ^ m) (h : m < 9000 := by decide) : i.natAbs.log2 < 9000 := by
  by_cases h0 : i.natAbs = 0
  · rw [h0]; decide
  · exact Nat.lt_trans ((Nat.log2_lt h0).mpr hi) h
theorem pos {i : Int} (h : 0 < i := by decide) : 0 < i := h
/-- the two ways of a conditional expression meet -/
theorem j_ie {t : TTp} {ta tb : TEp} {ρ : Rho} {S : Sto} {k : PQ} (P : PyData → Prop) (h1 : ∃ v, P v ∧ ∀ k' : PQ, k' (.d v) S → tIe t ta tb ρ S k') (h2 : ∀ v, P v → k (.d v) S) : tIe t ta tb ρ S k := by
  obtain ⟨v, p, h⟩ := h1
  exact h k (h2 v p)
theorem ix_map {ns : List Int} {i : Int} (h0 : 0 ≤ i) (h1 : i < ns.length) : ∃ v, ixD (ns.map PyData.int) i = some (.int v) := by
  have hl : i.toNat < ns.length := by omega
  exact ⟨ns[i.toNat], by rw [ixD_nn h0, List.getElem?_map, List.getElem?_eq_getElem hl]; rfl⟩
theorem j_if {tc : TTp} {t u : TSp} {E : EndsP} {ρ : Rho} {S : Sto} (P : Rho → Sto → Prop) (h1 : ∃ ρ' S', P ρ' S' ∧ ∀ E' : EndsP, E'.nx ρ' S' → tIfP tc t u E' ρ S) (h2 : ∀ ρ' S', P ρ' S' → E.nx ρ' S') : tIfJ tc t u E ρ S := by
  obtain ⟨ρ', S', p, h⟩ := h1
  exact tifj_ (h E (h2 ρ' S' p))
theorem j_ifA {tc : TTp} {t u : TSp} {E : EndsP} {ρ : Rho} {S : Sto} (P : Rho → Sto → Prop) (h1 : ∀ E' : EndsP, (∀ ρ' S', P ρ' S' → E'.nx ρ' S') → tIfP tc t u E' ρ S) (h2 : ∀ ρ' S', P ρ' S' → E.nx ρ' S') : tIfJ tc t u E ρ S := tifj_ (h1 E h2)
/-- a value that is stored, told by what is true of it -/
theorem j_st {i : Nat} {te : TEp} {E : EndsP} {ρ : Rho} {S : Sto} (P : PyData → Prop) (h1 : ∃ v, P v ∧ ∀ k : PQ, k (.d v) S → te ρ S k) (h2 : ∀ v, P v → E.nx (setR ρ i (some (.d v))) S) : tStJ i te E ρ S := by
  obtain ⟨v, p, h⟩ := h1
  exact stj_ (h _ (h2 v p))
theorem fmod_abs_lt (x : Int) {y : Int} (h : y ≠ 0) : (x.fmod y).natAbs < y.natAbs := by
  rw [Int.fmod_eq_emod]
  have h1 := Int.emod_nonneg x h
  have h2 := Int.emod_lt x h
  split <;> rename_i hc
  · omega
  · have hy : y < 0 := by
      rcases Int.lt_trichotomy y 0 with z | z | z
      · exact z
      · exact absurd z h
      · exact absurd (Or.inl (by omega)) hc
    have h3 : x % y ≠ 0 := fun z => hc (.inr (Int.dvd_of_emod_eq_zero z))
    omega
theorem gcd_fmod (x y : Int) : Int.gcd y (x.fmod y) = Int.gcd x y := by
  have e : x.fmod y = x + y * (-(x.fdiv y)) := by
    have := Int.mul_fdiv_add_fmod x y
    rw [Int.mul_neg]; omega
  rw [e, Int.gcd_add_mul_left_right, Int.gcd_comm]
/-- the greatest common divisor -/
def spec_gcd (ds : List PyData) (R : PyData → Prop) : Prop := ∃ a b : Int, ds = [.int a, .int b] ∧ R (.int (Int.gcd a b))
theorem len_gcd {ds : List PyData} {R : PyData → Prop} (h : spec_gcd ds R) : (dA ds).length = 2 := by
  obtain ⟨_, _, rfl, _⟩ := h; rfl
theorem gcd_end {x : Int} : (if x < 0 then -x else x) = ((Int.gcd x 0 : Nat) : Int) := by
  rw [Int.gcd_zero_right]; split <;> omega
def isInt : PyData → Bool
  | .int _ => true
  | _ => false
/-- what a ratio is -/
def ratioB : PyData → Bool
  | .tuple [.int t, .int u] => decide (0 < u) && decide ((Int.gcd t u : Int) = 1)
  | _ => false
/-- a number that is drawn from a bag -/
def BagOk (a b : Int) : Prop := 0 ≤ a ∧ 0 ≤ b ∧ b ≤ 2147483647
def spec_take (xs ds : List PyData) (R : PyData → List PyData → Prop) : Prop := ∃ a b n : Int, xs = [.int a, .int b] ∧ ds = [.int n] ∧ BagOk a b ∧ 0 < n ∧ n.natAbs.log2 < 9000 ∧
  ∀ r a' b' : Int, 0 ≤ r → r < n → BagOk a' b' → R (.int r) [.int a', .int b']
theorem len_take {xs ds : List PyData} {R : PyData → List PyData → Prop} (h : spec_take xs ds R) : (PV.cel 0 :: dA ds).length = 2 := by
  obtain ⟨_, _, _, _, rfl, _⟩ := h; rfl
def spec_draw (P : PyData → Prop) (xs ds : List PyData) (R : PyData → List PyData → Prop) : Prop := ∃ a b : Int, xs = [.int a, .int b] ∧ ds = [] ∧ BagOk a b ∧ ∀ r a' b', P r → BagOk a' b' → R r [.int a', .int b']
theorem len_draw {P : PyData → Prop} {xs ds : List PyData} {R : PyData → List PyData → Prop} (h : spec_draw P xs ds R) : (PV.cel 0 :: dA ds).length = 1 := by
  obtain ⟨_, _, _, rfl, _⟩ := h; rfl
/-- bounds of ints by digits -/
theorem ten98 : (10 : Int) ^ Int.toNat 49 * 10 ^ Int.toNat 49 = 10 ^ 98 := by decide
theorem below {n : Int} {m k : Nat} (h : n.natAbs ≤ 10 ^ m) (hk : 10 ^ m < 2 ^ k := by decide) : n.natAbs < 2 ^ k := Nat.lt_of_le_of_lt h hk
theorem ix_len {xs : List PyData} {i : Int} (h0 : 0 ≤ i) (h1 : i < xs.length) : ∃ d, ixD xs i = some d ∧ d ∈ xs := by
  have hl : i.toNat < xs.length := by omega
  exact ⟨xs[i.toNat], by rw [ixD_nn h0, List.getElem?_eq_getElem hl], List.getElem_mem hl⟩
/-- the ratio of two ints, as it is reckoned -/
def sgd (t u : Int) : Int := if u < 0 then -((Int.gcd t u : Nat) : Int) else ((Int.gcd t u : Nat) : Int)
def lowD (t u : Int) : PyData := .tuple [.int (t.fdiv (sgd t u)), .int (u.fdiv (sgd t u))]
def spec_low (ds : List PyData) (R : PyData → Prop) : Prop := ∃ t u : Int, ds = [.int t, .int u] ∧ u ≠ 0 ∧ u.natAbs < 2 ^ 8000 ∧ R (lowD t u)
theorem len_low {ds : List PyData} {R : PyData → Prop} (h : spec_low ds R) : (dA ds).length = 2 := by
  obtain ⟨_, _, rfl, _⟩ := h; rfl
theorem gcd_le {t u : Int} (h : u ≠ 0) : 0 < Int.gcd t u ∧ Int.gcd t u ≤ u.natAbs :=
  ⟨Int.gcd_pos_of_ne_zero_right _ h, Nat.le_of_dvd (by omega) (Int.gcd_dvd_natAbs_right t u)⟩
theorem sgd_ok {t u : Int} (h : u ≠ 0) (hb : u.natAbs < 2 ^ 8000) : sgd t u ≠ 0 ∧ (sgd t u).natAbs.log2 < 9000 := by
  obtain ⟨a, b⟩ := gcd_le (t := t) h
  have e : (sgd t u).natAbs = Int.gcd t u := by unfold sgd; split <;> omega
  refine ⟨fun z => ?_, logP (m := 8000) ?_ (by decide)⟩
  · rw [z] at e; simp at e; omega
  · rw [e]; exact Nat.lt_of_le_of_lt b hb
def spec_is_ratio (ds : List PyData) (R : PyData → Prop) : Prop := ∃ d, ds = [d] ∧ R (.bool (ratioB d))
theorem len_is_ratio {ds : List PyData} {R : PyData → Prop} (h : spec_is_ratio ds R) : (dA ds).length = 1 := by
  obtain ⟨_, rfl, _⟩ := h; rfl
theorem nx_gc {b : Nat} {I : Rho → Sto → Prop} {ρ ρ' : Rho} {S : Sto} (S' : Sto) (h : I ρ' S') (hw : Wk S (lenS S') ρ ρ') (hb : b ≤ lenS S') (hr : ∃ rest, S = S' ++ rest) : Nx b I ρ S := .inr ⟨ρ', S', ⟨hb, hw, hr⟩, h⟩
theorem keepS {S : Sto} {n : Nat} {x : Option PV} (h : okC n x) : x = none ∨ (x = x ∧ okC n x) ∨ FzS S x x := .inr (.inl ⟨rfl, h⟩)
theorem keepF {S : Sto} {n i : Nat} {xs : List PyData} (h : S[i]? = some (Cell.frz xs)) : some (PV.d (.list xs)) = none ∨ (some (PV.d (.list xs)) = some (.cel i) ∧ okC n (some (PV.d (.list xs)))) ∨ FzS S (some (.cel i)) (some (PV.d (.list xs))) := .inr (.inr ⟨i, xs, rfl, h, rfl⟩)
/-! ### reduced ratios -/
def RatOk (n d : Int) : Prop := 0 < d ∧ Int.gcd n d = 1
theorem cop_dvd {a b c : Int} (h : Int.gcd a b = 1) (hd : b ∣ a * c) : b ∣ c := by
  have h1 : b.natAbs ∣ a.natAbs * c.natAbs := by rw [← Int.natAbs_mul]; exact Int.natAbs_dvd_natAbs.mpr hd
  exact Int.natAbs_dvd_natAbs.mp (Nat.Coprime.dvd_of_dvd_mul_left (Nat.Coprime.symm h) h1)
theorem rat_uniq {n d n' d' : Int} (h : RatOk n d) (h' : RatOk n' d') (e : n * d' = n' * d) : n = n' ∧ d = d' := by
  have h1 : d ∣ d' := cop_dvd h.2 (e ▸ Int.dvd_mul_left n' d)
  have h2 : d' ∣ d := cop_dvd h'.2 (e ▸ Int.dvd_mul_left n d')
  have e2 : d = d' := Int.dvd_antisymm (Int.le_of_lt h.1) (Int.le_of_lt h'.1) h1 h2
  subst e2
  exact ⟨Int.eq_of_mul_eq_mul_right (Int.ne_of_gt h.1) e, rfl⟩
theorem sgd_dvd {t u : Int} : sgd t u ∣ t ∧ sgd t u ∣ u := by
  unfold sgd; split
  · exact ⟨Int.neg_dvd.mpr (Int.gcd_dvd_left t u), Int.neg_dvd.mpr (Int.gcd_dvd_right t u)⟩
  · exact ⟨Int.gcd_dvd_left t u, Int.gcd_dvd_right t u⟩
theorem sgd_ne {t u : Int} (h : u ≠ 0) : sgd t u ≠ 0 := by
  have := Int.gcd_pos_of_ne_zero_right t h
  unfold sgd; split <;> omega
theorem sgd_abs {t u : Int} : (sgd t u).natAbs = Int.gcd t u := by unfold sgd; split <;> omega
theorem low_ok {t u : Int} (h : u ≠ 0) : ∃ n d : Int, t.fdiv (sgd t u) = n ∧ u.fdiv (sgd t u) = d ∧ RatOk n d ∧ n * u = t * d ∧ n.natAbs ≤ t.natAbs ∧ d.natAbs ≤ u.natAbs ∧ n * sgd t u = t ∧ d * sgd t u = u := by
  obtain ⟨d1, d2⟩ := @sgd_dvd t u
  have hg := sgd_ne (t := t) h
  have e1 : t.fdiv (sgd t u) = t / sgd t u := Int.fdiv_eq_ediv_of_dvd d1
  have e2 : u.fdiv (sgd t u) = u / sgd t u := Int.fdiv_eq_ediv_of_dvd d2
  have m1 : t / sgd t u * sgd t u = t := Int.ediv_mul_cancel d1
  have m2 : u / sgd t u * sgd t u = u := Int.ediv_mul_cancel d2
  have hp : 0 < Int.gcd t u := Int.gcd_pos_of_ne_zero_right t h
  refine ⟨_, _, e1, e2, ⟨?_, ?_⟩, ?_, ?_, ?_, m1, m2⟩
  · have s : sgd t u = if u < 0 then -((Int.gcd t u : Nat) : Int) else ((Int.gcd t u : Nat) : Int) := rfl
    rcases Int.lt_trichotomy (u / sgd t u) 0 with z | z | z
    · exfalso
      split at s
      · have : 0 < u / sgd t u * sgd t u := Int.mul_pos_of_neg_of_neg z (by omega)
        omega
      · have : u / sgd t u * sgd t u < 0 := Int.mul_neg_of_neg_of_pos z (by omega)
        omega
    · rw [z] at m2; omega
    · exact z
  · have k : Int.gcd (t / sgd t u * sgd t u) (u / sgd t u * sgd t u) = Int.gcd (t / sgd t u) (u / sgd t u) * (sgd t u).natAbs := Int.gcd_mul_right _ _ _
    rw [m1, m2, sgd_abs] at k
    have : 1 * Int.gcd t u = Int.gcd (t / sgd t u) (u / sgd t u) * Int.gcd t u := by omega
    exact (Nat.eq_of_mul_eq_mul_right hp this).symm
  · generalize t / sgd t u = a at m1
    generalize u / sgd t u = b at m2
    rw [← m2]
    conv => rhs; rw [← m1]
    generalize sgd _ _ = g
    rw [Int.mul_assoc, Int.mul_comm b g]
  · have := congrArg Int.natAbs m1
    rw [Int.natAbs_mul] at this
    have hq : 1 ≤ (sgd t u).natAbs := by omega
    have := Nat.le_mul_of_pos_right (t / sgd t u).natAbs hq
    omega
  · have := congrArg Int.natAbs m2
    rw [Int.natAbs_mul] at this
    have hq : 1 ≤ (sgd t u).natAbs := by omega
    have := Nat.le_mul_of_pos_right (u / sgd t u).natAbs hq
    omega
theorem ks_bound (m : Int) : -(2 ^ 62) ≤ (if (if m < 8 then m else 8) > 2 then (if m < 8 then m else 8) else 2) ∧ (if (if m < 8 then m else 8) > 2 then (if m < 8 then m else 8) else 2) < 2 ^ 62 := by
  constructor <;> (split <;> (try split)) <;> omega
theorem ks_le {i : Nat} {m : Int} (h : i < (if (if m < 8 then m else 8) > 2 then (if m < 8 then m else 8) else 2).toNat) : i ≤ 8 := by
  have : ∀ m : Int, (if (if m < 8 then m else 8) > 2 then (if m < 8 then m else 8) else 2) ≤ 8 := fun m => by split <;> (try split) <;> omega
  have := this m
  omega
theorem low_uniq {t u n d : Int} (hu : u ≠ 0) (h : RatOk n d) (e : n * u = t * d) : lowD t u = .tuple [.int n, .int d] := by
  obtain ⟨n', d', e1, e2, h', e', _⟩ := low_ok (t := t) hu
  have : n' * d = n * d' := by
    refine Int.eq_of_mul_eq_mul_right hu ?_
    rw [Int.mul_right_comm, e', Int.mul_right_comm n, e, Int.mul_right_comm]
  obtain ⟨rfl, rfl⟩ := rat_uniq h' h this
  unfold lowD; rw [e1, e2]
theorem low_is {t u : Int} (hu : u ≠ 0) : ∃ n d : Int, lowD t u = .tuple [.int n, .int d] ∧ RatOk n d ∧ n * u = t * d ∧ n.natAbs ≤ t.natAbs ∧ d.natAbs ≤ u.natAbs := by
  obtain ⟨n, d, e1, e2, h, e, a, b, _⟩ := low_ok (t := t) hu
  exact ⟨n, d, by unfold lowD; rw [e1, e2], h, e, a, b⟩
theorem low_mul {t u f : Int} (hu : u ≠ 0) (hf : f ≠ 0) : lowD (t * f) (u * f) = lowD t u := by
  obtain ⟨n, d, e, h, e1, _⟩ := low_is (t := t) hu
  rw [e]
  refine low_uniq (Int.mul_ne_zero hu hf) h ?_
  rw [← Int.mul_assoc, e1, Int.mul_right_comm]
theorem ratB {n d : Int} (h : RatOk n d) : ratioB (.tuple [.int n, .int d]) = true := by
  show (decide (0 < d) && decide ((Int.gcd n d : Int) = 1)) = true
  rw [decide_eq_true h.1, h.2]; rfl
theorem rp_int {n : Int} {m : Nat} (h : n.natAbs < 2 ^ m) (hm : m ≤ 1919 := by decide) : RpOk (.int n) := by
  show n.natAbs.log2 < 1920
  by_cases h0 : n.natAbs = 0
  · rw [h0]; decide
  · exact Nat.lt_of_lt_of_le ((Nat.log2_lt h0).mpr h) (by omega)
theorem nz (n : Int) : n + (if decide (n = 0) = true then 1 else 0) ≠ 0 := by
  by_cases h : n = 0
  · subst h; decide
  · rw [if_neg (by simpa using h)]; omega
theorem nz_le (n : Int) : (n + (if decide (n = 0) = true then 1 else 0)).natAbs ≤ n.natAbs + 1 := by
  split <;> omega
theorem mul_lt {a b : Int} {m n k : Nat} (ha : a.natAbs < 2 ^ m) (hb : b.natAbs < 2 ^ n) (h : m + n ≤ k := by decide) : (a * b).natAbs < 2 ^ k := by
  rw [Int.natAbs_mul]
  refine Nat.lt_of_lt_of_le ?_ (Nat.pow_le_pow_right (by decide) h)
  rw [Nat.pow_add]
  exact Nat.mul_lt_mul'' ha hb
theorem lt_up {a : Nat} {m n : Nat} (h : a < 2 ^ m) (hm : m ≤ n := by decide) : a < 2 ^ n := Nat.lt_of_lt_of_le h (Nat.pow_le_pow_right (by decide) hm)
theorem dig98 {n : Int} (h : n.natAbs ≤ 10 ^ 98) : n.natAbs < 2 ^ 330 := Nat.lt_of_le_of_lt h (by decide)
theorem dig98' {n : Int} (h : n.natAbs ≤ 10 ^ 98 + 1) : n.natAbs < 2 ^ 330 := Nat.lt_of_le_of_lt h (by decide)
theorem ltU {a : Nat} {m : Nat} (n : Nat) (h : a < 2 ^ m) (hm : m ≤ n := by decide) : a < 2 ^ n := lt_up h hm
theorem rat_rp {n d : Int} {k : Nat} (hn : n.natAbs < 2 ^ k) (hd : d.natAbs < 2 ^ k) (hk : k ≤ 1919 := by decide) : RpsOk [.int n, .int d] := ⟨rp_int hn hk, rp_int hd hk, trivial⟩
theorem dpt {x : PyData} (h : Nat.ble x.depth 60 = true) : x.depth ≤ 60 := Nat.le_of_ble_eq_true h
theorem bnd {x : PyData} (h : Nat.ble (bndD x) sizeLine = true) : bndD x ≤ sizeLine := Nat.le_of_ble_eq_true h
theorem dT {p : Prop} [Decidable p] (h : p) : PV.d (PyData.bool (decide p)) = PV.d (PyData.bool true) := by rw [decide_eq_true h]
/-- a ratio of bounded size -/
def ratP (k : Nat) (d : PyData) : Prop := ∃ n m : Int, d = .tuple [.int n, .int m] ∧ RatOk n m ∧ n.natAbs < 2 ^ k ∧ m.natAbs < 2 ^ k
theorem RatOk.ne {n d : Int} (h : RatOk n d) : d ≠ 0 := Int.ne_of_gt h.1
theorem low_ratP {t u : Int} {k : Nat} (hu : u ≠ 0) (ht : t.natAbs < 2 ^ k) (hb : u.natAbs < 2 ^ k) : ratP k (lowD t u) := by
  obtain ⟨n, d, e, h, _, a, b⟩ := low_is (t := t) hu
  exact ⟨n, d, e, h, Nat.lt_of_le_of_lt a ht, Nat.lt_of_le_of_lt b hb⟩
/-- an answer of two ratios -/
def spec_two (k : Nat) (g : Int → Int → Int → Int → PyData) (ds : List PyData) (R : PyData → Prop) : Prop := ∃ a b c d : Int, ds = [.tuple [.int a, .int b], .tuple [.int c, .int d]] ∧ b ≠ 0 ∧ d ≠ 0 ∧
  (a.natAbs < 2 ^ k ∧ b.natAbs < 2 ^ k ∧ c.natAbs < 2 ^ k ∧ d.natAbs < 2 ^ k) ∧ R (g a b c d)
theorem len_two {k : Nat} {g : Int → Int → Int → Int → PyData} {ds : List PyData} {R : PyData → Prop} (h : spec_two k g ds R) : (dA ds).length = 2 := by
  obtain ⟨_, _, _, _, rfl, _⟩ := h; rfl
def plusD (a b c d : Int) : PyData := lowD (a * d + c * b) (b * d)
def minusD (a b c d : Int) : PyData := lowD (a * d - c * b) (b * d)
@[reducible] def lessD (a b c d : Int) : PyData := .bool (decide (a * d < c * b))
theorem add_lt {a b : Int} {m k : Nat} (ha : a.natAbs < 2 ^ m) (hb : b.natAbs < 2 ^ m) (h : m + 1 ≤ k := by decide) : (a + b).natAbs < 2 ^ k := by
  have : 2 ^ (m + 1) ≤ 2 ^ k := Nat.pow_le_pow_right (by decide) h
  rw [Nat.pow_succ] at this
  omega
theorem sub_lt {a b : Int} {m k : Nat} (ha : a.natAbs < 2 ^ m) (hb : b.natAbs < 2 ^ m) (h : m + 1 ≤ k := by decide) : (a - b).natAbs < 2 ^ k := by
  have : 2 ^ (m + 1) ≤ 2 ^ k := Nat.pow_le_pow_right (by decide) h
  rw [Nat.pow_succ] at this
  omega
theorem plus_is {a b c d : Int} (h1 : b ≠ 0) (h2 : d ≠ 0) : ∃ n m : Int, plusD a b c d = .tuple [.int n, .int m] ∧ RatOk n m ∧ n * (b * d) = (a * d + c * b) * m ∧ n.natAbs ≤ (a * d + c * b).natAbs ∧ m.natAbs ≤ (b * d).natAbs := low_is (Int.mul_ne_zero h1 h2)
theorem minus_is {a b c d : Int} (h1 : b ≠ 0) (h2 : d ≠ 0) : ∃ n m : Int, minusD a b c d = .tuple [.int n, .int m] ∧ RatOk n m ∧ n * (b * d) = (a * d - c * b) * m ∧ n.natAbs ≤ (a * d - c * b).natAbs ∧ m.natAbs ≤ (b * d).natAbs := low_is (Int.mul_ne_zero h1 h2)
theorem plus_comm (a b c d : Int) : plusD c d a b = plusD a b c d := by unfold plusD; rw [Int.add_comm, Int.mul_comm d b]
theorem minus_plus {a b c d n m : Int} (h : RatOk a b) (h2 : d ≠ 0) (hm : m ≠ 0) (e : n * (b * d) = (a * d + c * b) * m) : minusD n m c d = .tuple [.int a, .int b] :=
  low_uniq (Int.mul_ne_zero hm h2) h (by grind)
theorem plus_minus {a b c d n m : Int} (h : RatOk a b) (h2 : d ≠ 0) (hm : m ≠ 0) (e : n * (b * d) = (a * d - c * b) * m) : plusD n m c d = .tuple [.int a, .int b] :=
  low_uniq (Int.mul_ne_zero hm h2) h (by grind)
theorem RatOk.neg {n d : Int} (h : RatOk n d) : RatOk (-n) d := ⟨h.1, by rw [Int.neg_gcd]; exact h.2⟩
theorem minus_turn {a b c d n m : Int} (h : RatOk n m) (h1 : b ≠ 0) (h2 : d ≠ 0) (e : n * (b * d) = (a * d - c * b) * m) : minusD c d a b = .tuple [.int (-n), .int m] :=
  low_uniq (Int.mul_ne_zero h2 h1) h.neg (by grind)
theorem ratOne (n : Int) : RatOk n 1 := ⟨by decide, by rw [Int.gcd_one]⟩
theorem div_le (a : Int) {b : Int} (h : 0 < b) : (a / b).natAbs ≤ a.natAbs := by
  have := Int.natAbs_fdiv_le_natAbs a b
  rwa [Int.fdiv_eq_ediv_of_nonneg _ (Int.le_of_lt h)] at this
/-- an answer of one ratio -/
def spec_rat (k : Nat) (g : Int → Int → PyData) (ds : List PyData) (R : PyData → Prop) : Prop := ∃ a b : Int, ds = [.tuple [.int a, .int b]] ∧ 0 < b ∧ (a.natAbs < 2 ^ k ∧ b.natAbs < 2 ^ k) ∧ R (g a b)
theorem len_rat {k : Nat} {g : Int → Int → PyData} {ds : List PyData} {R : PyData → Prop} (h : spec_rat k g ds R) : (dA ds).length = 1 := by
  obtain ⟨_, _, rfl, _⟩ := h; rfl
@[reducible] def floorD (a b : Int) : PyData := .int (a / b)
def restD (a b : Int) : PyData := lowD (a % b) b
theorem rest_in {c e n m : Int} (he : 0 < e) (hm : 0 < m) (q : n * e = (c % e) * m) : 0 ≤ n ∧ n < m ∧ (c / e * m + n) * e = c * m := by
  have h1 := Int.emod_nonneg c (Int.ne_of_gt he)
  have h2 := Int.emod_lt_of_pos c he
  have h3 : e * (c / e) + c % e = c := Int.mul_ediv_add_emod c e
  refine ⟨?_, ?_, ?_⟩
  · refine Int.le_of_mul_le_mul_right (a := e) ?_ he
    rw [q, Int.zero_mul]; exact Int.mul_nonneg h1 (Int.le_of_lt hm)
  · refine Int.lt_of_mul_lt_mul_right (a := e) ?_ (Int.le_of_lt he)
    rw [q, Int.mul_comm m]; exact Int.mul_lt_mul_of_pos_right h2 hm
  · generalize c / e = w at *
    generalize c % e = r at *
    subst h3
    rw [Int.add_mul, q]; grind
theorem floor_in {c e : Int} (he : 0 < e) : c / e * e ≤ c ∧ c < (c / e + 1) * e := by
  have h1 := Int.emod_nonneg c (Int.ne_of_gt he)
  have h2 := Int.emod_lt_of_pos c he
  have h3 : e * (c / e) + c % e = c := Int.mul_ediv_add_emod c e
  rw [Int.add_mul, Int.mul_comm (c / e)]
  omega
theorem mod_lt {c e : Int} {k : Nat} (he : 0 < e) (h : e.natAbs < 2 ^ k) : (c % e).natAbs < 2 ^ k := by
  have h1 := Int.emod_nonneg c (Int.ne_of_gt he)
  have h2 := Int.emod_lt_of_pos c he
  omega
/-! ### data that == may look at -/
def lay (k : Nat) (d : PyData) : Prop := d.canLay0 = true ∧ d.depth ≤ k
theorem lay_int {k : Nat} (i : Int) : lay k (.int i) := ⟨rfl, Nat.zero_le _⟩
theorem lay_all {k : Nat} : ∀ {xs : List PyData}, (∀ x ∈ xs, lay k x) → PyData.canLayAll0 xs = true ∧ PyData.depthAll xs ≤ k
  | [], _ => ⟨rfl, Nat.zero_le _⟩
  | x :: xs, h => by
    obtain ⟨a, b⟩ := h x (by simp)
    obtain ⟨c, d⟩ := lay_all (xs := xs) fun y hy => h y (by simp [hy])
    exact ⟨by rw [PyData.canLayAll0, a, c]; rfl, by rw [PyData.depthAll]; omega⟩
theorem lay_list {k : Nat} {xs : List PyData} (h : ∀ x ∈ xs, lay k x) : lay (k + 1) (.list xs) := by
  obtain ⟨a, b⟩ := lay_all h
  exact ⟨by rw [PyData.canLay0]; exact a, by rw [PyData.depth]; omega⟩
theorem lay_tup {k : Nat} {xs : List PyData} (h : ∀ x ∈ xs, lay k x) : lay (k + 1) (.tuple xs) := by
  obtain ⟨a, b⟩ := lay_all h
  exact ⟨by rw [PyData.canLay0]; exact a, by rw [PyData.depth]; omega⟩
theorem lay.sh {k : Nat} {d : PyData} (h : lay k d) (hk : k ≤ 64 := by decide) : SeqAt.shaped d = true := by
  unfold SeqAt.shaped
  rw [h.1, decide_eq_true (Nat.le_trans h.2 hk)]; rfl
theorem lay_rat {k : Nat} (n d : Int) : lay (k + 1) (.tuple [.int n, .int d]) := lay_tup fun x hx => by
  simp only [List.mem_cons, List.not_mem_nil, or_false] at hx
  rcases hx with rfl | rfl <;> exact lay_int _
theorem ratP.lay {k m : Nat} {d : PyData} (h : ratP k d) : lay (m + 1) d := by
  obtain ⟨n, e, rfl, _⟩ := h; exact lay_rat n e
theorem eqv_rat (a b c d : Int) : PyData.eqv (.tuple [.int a, .int b]) (.tuple [.int c, .int d]) = (decide (a = c) && decide (b = d)) := by
  simp [PyData.eqv, PyData.eqvAll]; rfl
theorem eqv_rat_self (a b : Int) : PyData.eqv (.tuple [.int a, .int b]) (.tuple [.int a, .int b]) = true := by
  rw [eqv_rat, decide_eq_true rfl, decide_eq_true rfl]; rfl
mutual
theorem alike_self : ∀ d : PyData, d.canLay0 = true → alike d d = true
  | .none, _ => rfl
  | .bool _, _ => rfl
  | .int _, _ => rfl
  | .str _, _ => rfl
  | .list xs, h => by
    rw [PyData.canLay0] at h
    rw [alike]; exact alikes_self xs h
  | .tuple xs, h => by
    rw [PyData.canLay0] at h
    rw [alike]; exact alikes_self xs h
  | .dict _, h => by simp [PyData.canLay0] at h
theorem alikes_self : ∀ xs : List PyData, PyData.canLayAll0 xs = true → PySem.W.alikeAll xs xs = true
  | [], _ => rfl
  | x :: xs, h => by
    rw [PyData.canLayAll0, Bool.and_eq_true] at h
    rw [PySem.W.alikeAll, alike_self x h.1, alikes_self xs h.2]; rfl
end
theorem eqv_self {k : Nat} {d : PyData} (h : lay k d) : PyData.eqv d d = true := PySem.W.eqv_refl_alike d (alike_self d h.1)
/-- a test of one thing against itself -/
theorem ne_self {k : Nat} {d : PyData} {A B : Prop} (h : lay k d) (hb : B) (hk : k ≤ 64 := by decide) : (SeqAt.shaped d = true ∧ SeqAt.shaped d = true) ∧ Br (bnot (PyData.eqv d d)) A B :=
  ⟨⟨h.sh hk, h.sh hk⟩, brF (by rw [eqv_self h]) hb⟩
theorem eq_self {k : Nat} {d : PyData} {A B : Prop} (h : lay k d) (hb : A) (hk : k ≤ 64 := by decide) : (SeqAt.shaped d = true ∧ SeqAt.shaped d = true) ∧ Br (PyData.eqv d d) A B :=
  ⟨⟨h.sh hk, h.sh hk⟩, brT (eqv_self h) hb⟩
theorem lay_low {k : Nat} {t u : Int} (h : u ≠ 0) : lay (k + 1) (lowD t u) := by
  obtain ⟨n, d, e, _⟩ := low_is (t := t) h
  rw [e]; exact lay_rat n d
theorem perm_erase {α : Type} : ∀ (l : List α) (i : Nat) (h : i < l.length), (l[i] :: l.eraseIdx i).Perm l
  | x :: l, 0, _ => .refl _
  | x :: l, i + 1, h => by
    show (l[i]'(by simpa using h) :: x :: l.eraseIdx i).Perm (x :: l)
    exact (List.Perm.swap _ _ _).trans ((perm_erase l i (by simpa using h)).cons x)
/-! ### ratios as rational numbers -/
@[reducible] def rD (q : Rat) : PyData := .tuple [.int q.num, .int q.den]
theorem rat_ok (q : Rat) : RatOk q.num q.den := ⟨by have := q.den_pos; omega, q.reduced⟩
theorem low_rat {t u : Int} (h : u ≠ 0) : lowD t u = rD (Rat.divInt t u) := by
  refine low_uniq h (rat_ok _) ?_
  have hd : ((Rat.divInt t u).den : Int) ≠ 0 := (rat_ok _).ne
  exact (Rat.divInt_eq_divInt_iff hd h).mp (Rat.num_divInt_den _)
theorem den_ne (q : Rat) : (q.den : Int) ≠ 0 := (rat_ok q).ne
theorem plus_rat (p q : Rat) : plusD p.num p.den q.num q.den = rD (p + q) := by
  unfold plusD
  rw [low_rat (Int.mul_ne_zero (den_ne p) (den_ne q)), ← Rat.divInt_add_divInt _ _ (den_ne p) (den_ne q), Rat.num_divInt_den, Rat.num_divInt_den]
theorem minus_rat (p q : Rat) : minusD p.num p.den q.num q.den = rD (p - q) := by
  unfold minusD
  rw [low_rat (Int.mul_ne_zero (den_ne p) (den_ne q)), ← Rat.divInt_sub_divInt _ _ (den_ne p) (den_ne q), Rat.num_divInt_den, Rat.num_divInt_den]
theorem less_rat (p q : Rat) : lessD p.num p.den q.num q.den = .bool (decide (p < q)) := by
  unfold lessD
  congr 1
  exact decide_eq_decide.mpr (Rat.lt_iff p q).symm
theorem rat_is {n d : Int} (h : RatOk n d) : ∃ q : Rat, PyData.tuple [.int n, .int d] = rD q ∧ q.num = n ∧ (q.den : Int) = d := by
  have e := low_uniq (t := n) (u := d) h.ne h rfl
  rw [low_rat h.ne] at e
  refine ⟨_, e.symm, ?_⟩
  unfold rD at e
  injection e with e
  injection e with e1 e
  injection e with e2 _
  injection e1 with e1
  injection e2 with e2
  exact ⟨e1, e2⟩
/-- a bound of both ends -/
def Bd (k : Nat) (q : Rat) : Prop := q.num.natAbs < 2 ^ k ∧ (q.den : Int).natAbs < 2 ^ k
theorem ratP.rat {k : Nat} {d : PyData} (h : ratP k d) : ∃ q, d = rD q ∧ Bd k q := by
  obtain ⟨n, m, rfl, ok, a, b⟩ := h
  obtain ⟨q, e, e1, e2⟩ := rat_is ok
  exact ⟨q, e, by unfold Bd; rw [e1, e2]; exact ⟨a, b⟩⟩
theorem Bd.up {k m : Nat} {q : Rat} (h : Bd k q) (hm : k ≤ m) : Bd m q := ⟨lt_up h.1 hm, lt_up h.2 hm⟩
theorem Bd.low {k : Nat} {t u : Int} (hu : u ≠ 0) (ht : t.natAbs < 2 ^ k) (hb : u.natAbs < 2 ^ k) : Bd k (Rat.divInt t u) := by
  obtain ⟨n, d, e, ok, _, a, b⟩ := low_is (t := t) hu
  rw [low_rat hu] at e
  unfold rD at e
  injection e with e
  injection e with e1 e
  injection e with e2 _
  injection e1 with e1
  injection e2 with e2
  unfold Bd
  rw [e1, e2]
  exact ⟨Nat.lt_of_le_of_lt a ht, Nat.lt_of_le_of_lt b hb⟩
theorem Bd.add {k l m : Nat} {p q : Rat} (hp : Bd k p) (hq : Bd l q) (hm : k + l + 1 ≤ m) : Bd m (p + q) := by
  have e := Rat.divInt_add_divInt p.num q.num (den_ne p) (den_ne q)
  rw [Rat.num_divInt_den, Rat.num_divInt_den] at e
  rw [e]
  exact Bd.low (Int.mul_ne_zero (den_ne p) (den_ne q)) (add_lt (m := k + l) (mul_lt hp.1 hq.2 (Nat.le_refl _)) (mul_lt hq.1 hp.2 (by omega)) hm) (mul_lt hp.2 hq.2 (by omega))
theorem Bd.sub {k l m : Nat} {p q : Rat} (hp : Bd k p) (hq : Bd l q) (hm : k + l + 1 ≤ m) : Bd m (p - q) := by
  have e := Rat.divInt_sub_divInt p.num q.num (den_ne p) (den_ne q)
  rw [Rat.num_divInt_den, Rat.num_divInt_den] at e
  rw [e]
  exact Bd.low (Int.mul_ne_zero (den_ne p) (den_ne q)) (sub_lt (m := k + l) (mul_lt hp.1 hq.2 (Nat.le_refl _)) (mul_lt hq.1 hp.2 (by omega)) hm) (mul_lt hp.2 hq.2 (by omega))
/-- the contract of plus, minus, is_less on rationals -/
theorem two_rat {g : Int → Int → Int → Int → PyData} {R : PyData → Prop} {p q : Rat} (hp : Bd 3900 p) (hq : Bd 3900 q) (h : R (g p.num p.den q.num q.den)) : spec_two 3900 g [rD p, rD q] R :=
  ⟨_, _, _, _, rfl, den_ne p, den_ne q, ⟨hp.1, hp.2, hq.1, hq.2⟩, h⟩
def rsum : List Rat → Rat
  | [] => 0
  | q :: qs => q + rsum qs
theorem rsum_app : ∀ xs ys : List Rat, rsum (xs ++ ys) = rsum xs + rsum ys
  | [], ys => by rw [rsum, Rat.zero_add]; rfl
  | x :: xs, ys => by rw [List.cons_append, rsum, rsum, rsum_app xs ys, Rat.add_assoc]
theorem rsum_perm {xs ys : List Rat} (h : xs.Perm ys) : rsum xs = rsum ys := by
  induction h with
  | nil => rfl
  | cons x _ ih => rw [rsum, rsum, ih]
  | swap x y l => rw [rsum, rsum, rsum, rsum, ← Rat.add_assoc, ← Rat.add_assoc, Rat.add_comm y x]
  | trans _ _ a b => rw [a, b]
theorem rsum_bd {k : Nat} : ∀ {xs : List Rat}, (∀ q ∈ xs, Bd k q) → Bd (1 + xs.length * (k + 1)) (rsum xs)
  | [], _ => ⟨by show (0 : Int).natAbs < _; simp; , by show (1 : Int).natAbs < _; simp⟩
  | x :: xs, h => (h x (by simp)).add (rsum_bd fun q hq => h q (by simp [hq])) (by rw [List.length_cons, Nat.add_mul]; omega)
theorem lay_rD {k : Nat} (q : Rat) : lay (k + 1) (rD q) := lay_rat _ _
theorem eqv_rD (q : Rat) : PyData.eqv (rD q) (rD q) = true := eqv_rat_self _ _
/-- the sum of a list of ratios -/
def spec_total (ds : List PyData) (R : PyData → Prop) : Prop := ∃ (qs : List Rat) (k : Nat), ds = [.list (qs.map rD)] ∧ (∀ q ∈ qs, Bd k q) ∧ 1 + qs.length * (k + 1) ≤ 3899 ∧ k ≤ 3900 ∧ qs.length ≤ 1000 ∧ R (rD (rsum qs))
theorem len_total {ds : List PyData} {R : PyData → Prop} (h : spec_total ds R) : (dA ds).length = 1 := by
  obtain ⟨_, _, rfl, _⟩ := h; rfl
theorem ratio_rD (q : Rat) : ratioB (rD q) = true := ratB (rat_ok q)
theorem perm_rats {l : List PyData} {qs : List Rat} (h : l.Perm (qs.map rD)) : ∃ qs' : List Rat, l = qs'.map rD ∧ qs'.Perm qs := by
  let v : PyData → Rat := fun d => match d with
    | .tuple [.int n, .int m] => Rat.divInt n m
    | _ => 0
  have hv : ∀ q, v (rD q) = q := fun q => Rat.num_divInt_den q
  refine ⟨l.map v, ?_, ?_⟩
  · rw [List.map_map]
    have : ∀ x ∈ l, (rD ∘ v) x = x := fun x hx => by
      obtain ⟨q, _, rfl⟩ := List.mem_map.mp (h.subset hx)
      show rD (v (rD q)) = rD q
      rw [hv]
    exact ((List.map_congr_left this).trans (by simp)).symm
  · have := h.map v
    rw [List.map_map] at this
    rwa [show v ∘ rD = id from funext hv, List.map_id] at this
theorem cut_from {xs : List PyData} {i : Int} (h0 : 0 ≤ i) (h1 : i ≤ xs.length) : cutL xs (some i) none = xs.drop i.toNat := by
  unfold cutL
  rw [show HT.sIx xs.length 0 (some i) = i.toNat from by show (if i < 0 then _ else min i.toNat xs.length) = _; rw [if_neg (by omega)]; omega]
  show (xs.drop i.toNat).take (xs.length - i.toNat) = _
  rw [← List.length_drop, List.take_length]
theorem cut_to {xs : List PyData} {i : Int} (h0 : 0 ≤ i) (h1 : i ≤ xs.length) : cutL xs none (some i) = xs.take i.toNat := by
  unfold cutL
  rw [show HT.sIx xs.length xs.length (some i) = i.toNat from by show (if i < 0 then _ else min i.toNat xs.length) = _; rw [if_neg (by omega)]; omega]
  rfl
theorem cut_take {xs : List PyData} {i : Int} (h0 : 0 ≤ i) : cutL xs none (some i) = xs.take i.toNat := by
  unfold cutL
  rw [show HT.sIx xs.length xs.length (some i) = min i.toNat xs.length from by show (if i < 0 then _ else min i.toNat xs.length) = _; rw [if_neg (by omega)]]
  show (xs.drop 0).take (min i.toNat xs.length - 0) = _
  rw [List.drop_zero, Nat.sub_zero]
  by_cases h : i.toNat ≤ xs.length
  · rw [Nat.min_eq_left h]
  · rw [Nat.min_eq_right (by omega), List.take_length, List.take_of_length_le (by omega)]
def iR (n : Int) : Rat := Rat.divInt n 1
theorem iR_add (a b : Int) : iR (a + b) = iR a + iR b := by
  unfold iR
  rw [Rat.divInt_add_divInt _ _ (by decide) (by decide), Int.mul_one, Int.mul_one]; rfl
def flR (q : Rat) : Int := q.num / q.den
def restR (q : Rat) : Rat := Rat.divInt (q.num % q.den) q.den
theorem rest_fl (q : Rat) : iR (flR q) + restR q = q := by
  unfold iR flR restR
  rw [Rat.divInt_add_divInt _ _ (by decide) (den_ne q)]
  conv => rhs; rw [← Rat.num_divInt_den q]
  rw [Int.one_mul, Int.mul_one, Int.mul_comm, Int.mul_ediv_add_emod]
theorem rests_fl : ∀ qs : List Rat, iR (qs.map flR).sum + rsum (qs.map restR) = rsum qs
  | [] => by show iR 0 + 0 = 0; rw [show iR 0 = 0 from by decide, Rat.add_zero]
  | q :: qs => by
    have h1 := rest_fl q
    have h2 := rests_fl qs
    rw [List.map_cons, List.map_cons, List.sum_cons, rsum, rsum, iR_add]
    grind
theorem intsD_map (zs : List Int) : intsD (zs.map PyData.int) = some zs := by
  induction zs with
  | nil => rfl
  | cons z zs ih => simp only [List.map_cons, intsD, ih]
theorem fl_sum {k : Nat} : ∀ {qs : List Rat}, (∀ q ∈ qs, Bd k q) → (qs.map flR).sum.natAbs ≤ qs.length * 2 ^ k
  | [], _ => by simp
  | q :: qs, h => by
    have h1 := fl_sum (qs := qs) fun p hp => h p (by simp [hp])
    have h2 : (flR q).natAbs ≤ q.num.natAbs := div_le _ (rat_ok q).1
    have h3 := (h q (by simp)).1
    rw [List.map_cons, List.sum_cons, List.length_cons, Nat.add_mul]
    omega
theorem rest_bd {k : Nat} {q : Rat} (h : Bd k q) : Bd k (restR q) := Bd.low (den_ne q) (mod_lt (rat_ok q).1 h.2) h.2
def floorF : PyData → PyData
  | .tuple [.int n, .int m] => .int (n / m)
  | _ => .none
def restF : PyData → PyData
  | .tuple [.int n, .int m] => restD n m
  | _ => .none
theorem floors (qs : List Rat) : mapD floorF (qs.map rD) = (qs.map flR).map PyData.int := by
  rw [mapD_eq, List.map_map, List.map_map]; rfl
theorem rests (qs : List Rat) : mapD restF (qs.map rD) = (qs.map restR).map rD := by
  rw [mapD_eq, List.map_map, List.map_map]
  exact List.map_congr_left fun q _ => low_rat (den_ne q)
theorem rat_rat {g : Int → Int → PyData} {R : PyData → Prop} {p : Rat} (hp : Bd 3900 p) (h : R (g p.num p.den)) : spec_rat 3900 g [rD p] R :=
  ⟨_, _, rfl, (rat_ok p).1, hp, h⟩
theorem rp_rD {k : Nat} {q : Rat} (h : Bd k q) (hk : k ≤ 1919 := by decide) : RpsOk [.int q.num, .int q.den] := rat_rp h.1 h.2 hk
theorem sub_zero' (q : Rat) : q - 0 = q := by grind
theorem sub_self' (q : Rat) : q - q = 0 := by grind
theorem ks6_bound (m : Int) : -(2 ^ 62) ≤ (if (if m < 6 then m else 6) > 2 then (if m < 6 then m else 6) else 2) ∧ (if (if m < 6 then m else 6) > 2 then (if m < 6 then m else 6) else 2) < 2 ^ 62 := by
  constructor <;> (split <;> (try split)) <;> omega
theorem ks6_le {i : Nat} {m : Int} (h : i < (if (if m < 6 then m else 6) > 2 then (if m < 6 then m else 6) else 2).toNat) : i ≤ 6 := by
  have : ∀ m : Int, (if (if m < 6 then m else 6) > 2 then (if m < 6 then m else 6) else 2) ≤ 6 := fun m => by split <;> (try split) <;> omega
  have := this m
  omega
theorem lay_ints {k : Nat} (ns : List Int) : lay (k + 1) (.list (ns.map PyData.int)) := lay_list fun x hx => by
  obtain ⟨i, _, rfl⟩ := List.mem_map.mp hx; exact lay_int i
theorem eqvAll_ints : ∀ a b : List Int, PyData.eqvAll (a.map PyData.int) (b.map PyData.int) = decide (a = b)
  | [], [] => by simp [PyData.eqvAll]
  | [], _ :: _ => by simp [PyData.eqvAll]
  | _ :: _, [] => by simp [PyData.eqvAll]
  | x :: a, y :: b => by
    rw [List.map_cons, List.map_cons, PyData.eqvAll, eqvAll_ints a b, PyData.eqv]
    by_cases h : x = y
    · subst h; simp
    · simp [h]
theorem eqv_ints (a b : List Int) : PyData.eqv (.list (a.map PyData.int)) (.list (b.map PyData.int)) = decide (a = b) := by
  rw [PyData.eqv]; exact eqvAll_ints a b
theorem eqv_nil (xs : List PyData) : PyData.eqv (.list xs) (.list []) = xs.isEmpty := by
  cases xs <;> simp [PyData.eqv, PyData.eqvAll]
theorem ixD_last (xs : List PyData) (y : PyData) : ixD (xs ++ [y]) (-1) = some y := by
  show nthD (revD (xs ++ [y]) []) 0 = some y
  rw [revD_eq]
  simp [nthD]
theorem set_last {α : Type} (xs : List α) (y z : α) : (xs ++ [y]).set ((xs ++ [y]).length - 1) z = xs ++ [z] := by
  rw [List.length_append, List.set_append]
  simp
local macro_rules | `(tactic| walk_at "w") => `(tactic| with_reducible conv => whnf)
local macro_rules | `(tactic| walk_at "n") => `(tactic| ((try (with_reducible conv => whnf)); (repeat ((first | (with_reducible refine Bar.mk ?_) | (with_reducible refine lenI ?_)); (try (with_reducible conv => whnf)))); (try dsimp only)))
/-! ### the text -/
def topS (i : Nat) : Stmt := PySem.Challenge.pw_onecut_k48_whole_every_telling_is_a_cut.main.body.getD i (.Pass ⟨0, 0, 0, 0⟩)
abbrev s_u_law_bag : Stmt := topS 60
theorem sc_u_law_bag : FnScope ["script", "at", "primes", "cell", "large", "mixed"] ["script", "at"] (defScope s_u_law_bag) := ⟨rfl, rfl, rfl, by decide +kernel, rfl, by decide +kernel, by decide +kernel⟩
abbrev s_u_law_take : Stmt := topS 61
theorem sc_u_law_take : FnScope ["bag", "size", "digit"] ["bag", "size"] (defScope s_u_law_take) := ⟨rfl, rfl, rfl, by decide +kernel, rfl, by decide +kernel, by decide +kernel⟩
abbrev s_u_law_part : Stmt := topS 62
theorem sc_u_law_part : FnScope ["one", "other"] ["one", "other"] (defScope s_u_law_part) := ⟨rfl, rfl, rfl, by decide +kernel, rfl, by decide +kernel, by decide +kernel⟩
abbrev s_u_law_lowest : Stmt := topS 63
theorem sc_u_law_lowest : FnScope ["top", "under", "part"] ["top", "under"] (defScope s_u_law_lowest) := ⟨rfl, rfl, rfl, by decide +kernel, rfl, by decide +kernel, by decide +kernel⟩
abbrev s_u_law_amount : Stmt := topS 64
theorem sc_u_law_amount : FnScope ["bag", "under", "tops", "top"] ["bag"] (defScope s_u_law_amount) := ⟨rfl, rfl, rfl, by decide +kernel, rfl, by decide +kernel, by decide +kernel⟩
abbrev s_u_law_entry : Stmt := topS 65
theorem sc_u_law_entry : FnScope ["bag", "last", "first", "many", "k"] ["bag", "last"] (defScope s_u_law_entry) := ⟨rfl, rfl, rfl, by decide +kernel, rfl, by decide +kernel, by decide +kernel⟩
abbrev s_u_law_entries : Stmt := topS 66
theorem sc_u_law_entries : FnScope ["bag", "last", "most", "k"] ["bag", "last", "most"] (defScope s_u_law_entries) := ⟨rfl, rfl, rfl, by decide +kernel, rfl, by decide +kernel, by decide +kernel⟩
abbrev s_u_law_grain : Stmt := topS 67
theorem sc_u_law_grain : FnScope ["entries", "grain", "word", "first", "many", "amounts", "top", "under"] ["entries"] (defScope s_u_law_grain) := ⟨rfl, rfl, rfl, by decide +kernel, rfl, by decide +kernel, by decide +kernel⟩
abbrev s_u_law_stretch : Stmt := topS 70
theorem sc_u_law_stretch : FnScope ["bag", "last", "first"] ["bag", "last"] (defScope s_u_law_stretch) := ⟨rfl, rfl, rfl, by decide +kernel, rfl, by decide +kernel, by decide +kernel⟩
abbrev s_u_law_before : Stmt := topS 68
theorem sc_u_law_before : FnScope ["entries", "day", "grain", "found", "word", "first", "many", "amounts", "units", "days", "top", "under"] ["entries", "day", "grain"] (defScope s_u_law_before) := ⟨rfl, rfl, rfl, by decide +kernel, rfl, by decide +kernel, by decide +kernel⟩
abbrev s_u_law_told : Stmt := topS 69
theorem sc_u_law_told : FnScope ["entries", "unit", "first", "many", "grain", "low", "high"] ["entries", "unit", "first", "many", "grain"] (defScope s_u_law_told) := ⟨rfl, rfl, rfl, by decide +kernel, rfl, by decide +kernel, by decide +kernel⟩
abbrev s_u_law_statements : Stmt := topS 71
theorem sc_u_law_statements : FnScope ["bag", "entries", "last", "most", "grain", "found", "unit", "wrong", "k", "first", "many", "number"] ["bag", "entries", "last", "most"] (defScope s_u_law_statements) := ⟨rfl, rfl, rfl, by decide +kernel, rfl, by decide +kernel, by decide +kernel⟩
abbrev s_u_law_case : Stmt := topS 73
theorem sc_u_law_case : FnScope ["bag", "most", "last", "entries", "under", "statements"] ["bag", "most"] (defScope s_u_law_case) := ⟨rfl, rfl, rfl, by decide +kernel, rfl, by decide +kernel, by decide +kernel⟩
abbrev s_u_law_days : Stmt := topS 74
theorem sc_u_law_days : FnScope ["bag", "entries", "last", "grain", "unit", "found", "turn", "at", "day"] ["bag", "entries", "last", "grain"] (defScope s_u_law_days) := ⟨rfl, rfl, rfl, by decide +kernel, rfl, by decide +kernel, by decide +kernel⟩
abbrev s_is_integer_kinds : Stmt := topS 23
theorem sc_is_integer_kinds : FnScope ["thing"] ["thing"] (defScope s_is_integer_kinds) := ⟨rfl, rfl, rfl, by decide +kernel, rfl, by decide +kernel, by decide +kernel⟩
abbrev s_is_within : Stmt := topS 25
theorem sc_is_within : FnScope ["thing", "low", "high"] ["thing", "low", "high"] (defScope s_is_within) := ⟨rfl, rfl, rfl, by decide +kernel, rfl, by decide +kernel, by decide +kernel⟩
abbrev s_is_day : Stmt := topS 26
theorem sc_is_day : FnScope ["thing"] ["thing"] (defScope s_is_day) := ⟨rfl, rfl, rfl, by decide +kernel, rfl, by decide +kernel, by decide +kernel⟩
abbrev s_is_stretch : Stmt := topS 27
theorem sc_is_stretch : FnScope ["thing"] ["thing"] (defScope s_is_stretch) := ⟨rfl, rfl, rfl, by decide +kernel, rfl, by decide +kernel, by decide +kernel⟩
abbrev s_is_integer_ratios : Stmt := topS 10
theorem sc_is_integer_ratios : FnScope ["thing"] ["thing"] (defScope s_is_integer_ratios) := ⟨rfl, rfl, rfl, by decide +kernel, rfl, by decide +kernel, by decide +kernel⟩
abbrev s_common : Stmt := topS 12
theorem sc_common : FnScope ["one", "other"] ["one", "other"] (defScope s_common) := ⟨rfl, rfl, rfl, by decide +kernel, rfl, by decide +kernel, by decide +kernel⟩
abbrev s_is_ratio : Stmt := topS 13
theorem sc_is_ratio : FnScope ["thing", "top", "under"] ["thing"] (defScope s_is_ratio) := ⟨rfl, rfl, rfl, by decide +kernel, rfl, by decide +kernel, by decide +kernel⟩
abbrev s_is_amount : Stmt := topS 32
theorem sc_is_amount : FnScope ["thing"] ["thing"] (defScope s_is_amount) := ⟨rfl, rfl, rfl, by decide +kernel, rfl, by decide +kernel, by decide +kernel⟩
abbrev s_are_amounts : Stmt := topS 33
theorem sc_are_amounts : FnScope ["thing", "one"] ["thing"] (defScope s_are_amounts) := ⟨rfl, rfl, rfl, by decide +kernel, rfl, by decide +kernel, by decide +kernel⟩
abbrev s_wrong_part : Stmt := topS 34
theorem sc_wrong_part : FnScope ["thing", "word", "first", "many", "last", "is_last"] ["thing"] (defScope s_wrong_part) := ⟨rfl, rfl, rfl, by decide +kernel, rfl, by decide +kernel, by decide +kernel⟩
abbrev s_check_item : Stmt := topS 35
theorem sc_check_item : FnScope ["thing", "part"] ["thing"] (defScope s_check_item) := ⟨rfl, rfl, rfl, by decide +kernel, rfl, by decide +kernel, by decide +kernel⟩
abbrev s_M_numbered : Stmt := inClass (topS 58) 15
theorem sc_M_numbered : FnScope ["self"] ["self"] (defScope s_M_numbered) := ⟨rfl, rfl, rfl, by decide +kernel, rfl, by decide +kernel, by decide +kernel⟩
abbrev s_M_of_kind : Stmt := inClass (topS 58) 10
theorem sc_M_of_kind : FnScope ["self", "kind", "number", "item"] ["self", "kind"] (defScope s_M_of_kind) := ⟨rfl, rfl, rfl, by decide +kernel, rfl, by decide +kernel, by decide +kernel⟩
abbrev s_M_add : Stmt := inClass (topS 58) 12
theorem sc_M_add : FnScope ["self", "item", "most", "number"] ["self", "item"] (defScope s_M_add) := ⟨rfl, rfl, rfl, by decide +kernel, rfl, by decide +kernel, by decide +kernel⟩
abbrev s_M_need : Stmt := inClass (topS 58) 11
theorem sc_M_need : FnScope ["self", "number"] ["self", "number"] (defScope s_M_need) := ⟨rfl, rfl, rfl, by decide +kernel, rfl, by decide +kernel, by decide +kernel⟩
abbrev s_M_drop : Stmt := inClass (topS 58) 13
theorem sc_M_drop : FnScope ["self", "number"] ["self", "number"] (defScope s_M_drop) := ⟨rfl, rfl, rfl, by decide +kernel, rfl, by decide +kernel, by decide +kernel⟩
abbrev s_u_law_ledger : Stmt := topS 72
theorem sc_u_law_ledger : FnScope ["bag", "entries", "statements", "ledger", "queue"] ["bag", "entries", "statements"] (defScope s_u_law_ledger) := ⟨rfl, rfl, rfl, by decide +kernel, rfl, by decide +kernel, by decide +kernel⟩
abbrev s_lowest : Stmt := topS 14
theorem sc_lowest : FnScope ["top", "under", "part"] ["top", "under"] (defScope s_lowest) := ⟨rfl, rfl, rfl, by decide +kernel, rfl, by decide +kernel, by decide +kernel⟩
abbrev s_grain_of : Stmt := topS 37
theorem sc_grain_of : FnScope ["entries", "found", "word", "first", "many", "amounts", "top", "under"] ["entries"] (defScope s_grain_of) := ⟨rfl, rfl, rfl, by decide +kernel, rfl, by decide +kernel, by decide +kernel⟩
abbrev s_as_ratios : Stmt := topS 50
theorem sc_as_ratios : FnScope ["spans", "grain", "low", "high"] ["spans", "grain"] (defScope s_as_ratios) := ⟨rfl, rfl, rfl, by decide +kernel, rfl, by decide +kernel, by decide +kernel⟩
abbrev s_meet : Stmt := topS 41
theorem sc_meet : FnScope ["one", "other", "found", "low", "high", "first", "last"] ["one", "other"] (defScope s_meet) := ⟨rfl, rfl, rfl, by decide +kernel, rfl, by decide +kernel, by decide +kernel⟩
abbrev s_arc_of : Stmt := topS 40
theorem sc_arc_of : FnScope ["low", "high", "grain", "found"] ["low", "high", "grain"] (defScope s_arc_of) := ⟨rfl, rfl, rfl, by decide +kernel, rfl, by decide +kernel, by decide +kernel⟩
abbrev s_given_before : Stmt := topS 38
theorem sc_given_before : FnScope ["entry", "day", "grain", "word", "first", "many", "amounts", "pieces", "rounds", "rest", "top", "under"] ["entry", "day", "grain"] (defScope s_given_before) := ⟨rfl, rfl, rfl, by decide +kernel, rfl, by decide +kernel, by decide +kernel⟩
abbrev s_units_before : Stmt := topS 39
theorem sc_units_before : FnScope ["entries", "day", "grain", "entry"] ["entries", "day", "grain"] (defScope s_units_before) := ⟨rfl, rfl, rfl, by decide +kernel, rfl, by decide +kernel, by decide +kernel⟩
abbrev s_greater_arc : Stmt := topS 43
theorem sc_greater_arc : FnScope ["entries", "stretch", "grain", "first", "many", "start"] ["entries", "stretch", "grain"] (defScope s_greater_arc) := ⟨rfl, rfl, rfl, by decide +kernel, rfl, by decide +kernel, by decide +kernel⟩
abbrev s_lesser_number : Stmt := topS 44
theorem sc_lesser_number : FnScope ["entries", "stretch", "grain", "first", "many"] ["entries", "stretch", "grain"] (defScope s_lesser_number) := ⟨rfl, rfl, rfl, by decide +kernel, rfl, by decide +kernel, by decide +kernel⟩
abbrev s_outside : Stmt := topS 42
theorem sc_outside : FnScope ["one", "grain", "found", "at", "low", "high"] ["one", "grain"] (defScope s_outside) := ⟨rfl, rfl, rfl, by decide +kernel, rfl, by decide +kernel, by decide +kernel⟩
abbrev s_allowed_units : Stmt := topS 45
theorem sc_allowed_units : FnScope ["entries", "statement", "grain", "word", "first", "many", "number", "arc", "lesser"] ["entries", "statement", "grain"] (defScope s_allowed_units) := ⟨rfl, rfl, rfl, by decide +kernel, rfl, by decide +kernel, by decide +kernel⟩
abbrev s_left_units : Stmt := topS 46
theorem sc_left_units : FnScope ["entries", "statements", "grain", "found", "statement"] ["entries", "statements", "grain"] (defScope s_left_units) := ⟨rfl, rfl, rfl, by decide +kernel, rfl, by decide +kernel, by decide +kernel⟩
abbrev s_M_entries : Stmt := inClass (topS 58) 16
theorem sc_M_entries : FnScope ["self"] ["self"] (defScope s_M_entries) := ⟨rfl, rfl, rfl, by decide +kernel, rfl, by decide +kernel, by decide +kernel⟩
abbrev s_M_statements : Stmt := inClass (topS 58) 17
theorem sc_M_statements : FnScope ["self"] ["self"] (defScope s_M_statements) := ⟨rfl, rfl, rfl, by decide +kernel, rfl, by decide +kernel, by decide +kernel⟩
abbrev s_left : Stmt := topS 51
theorem sc_left : FnScope ["ledger", "grain"] ["ledger"] (defScope s_left) := ⟨rfl, rfl, rfl, by decide +kernel, rfl, by decide +kernel, by decide +kernel⟩
abbrev s_u_law_near : Stmt := topS 75
theorem sc_u_law_near : FnScope ["entries", "found", "grain", "end", "first", "whole"] ["entries", "found", "grain"] (defScope s_u_law_near) := ⟨rfl, rfl, rfl, by decide +kernel, rfl, by decide +kernel, by decide +kernel⟩
abbrev s_is_cut : Stmt := topS 28
theorem sc_is_cut : FnScope ["thing"] ["thing"] (defScope s_is_cut) := ⟨rfl, rfl, rfl, by decide +kernel, rfl, by decide +kernel, by decide +kernel⟩
abbrev s_check_cut : Stmt := topS 31
theorem sc_check_cut : FnScope ["thing"] ["thing"] (defScope s_check_cut) := ⟨rfl, rfl, rfl, by decide +kernel, rfl, by decide +kernel, by decide +kernel⟩
abbrev s_check_stretch : Stmt := topS 30
theorem sc_check_stretch : FnScope ["thing"] ["thing"] (defScope s_check_stretch) := ⟨rfl, rfl, rfl, by decide +kernel, rfl, by decide +kernel, by decide +kernel⟩
abbrev s_floor_of : Stmt := topS 16
theorem sc_floor_of : FnScope ["ratio"] ["ratio"] (defScope s_floor_of) := ⟨rfl, rfl, rfl, by decide +kernel, rfl, by decide +kernel, by decide +kernel⟩
abbrev s_plus : Stmt := topS 15
theorem sc_plus : FnScope ["one", "other"] ["one", "other"] (defScope s_plus) := ⟨rfl, rfl, rfl, by decide +kernel, rfl, by decide +kernel, by decide +kernel⟩
abbrev s_check_day : Stmt := topS 29
theorem sc_check_day : FnScope ["thing"] ["thing"] (defScope s_check_day) := ⟨rfl, rfl, rfl, by decide +kernel, rfl, by decide +kernel, by decide +kernel⟩
abbrev s_sum_before : Stmt := topS 48
theorem sc_sum_before : FnScope ["entries", "day", "grain"] ["entries", "day"] (defScope s_sum_before) := ⟨rfl, rfl, rfl, by decide +kernel, rfl, by decide +kernel, by decide +kernel⟩
abbrev s_total_by : Stmt := topS 52
theorem sc_total_by : FnScope ["entries", "cut", "day"] ["entries", "cut", "day"] (defScope s_total_by) := ⟨rfl, rfl, rfl, by decide +kernel, rfl, by decide +kernel, by decide +kernel⟩
abbrev s_told : Stmt := topS 53
theorem sc_told : FnScope ["ledger", "cut", "stretch", "first", "many", "entries"] ["ledger", "cut", "stretch"] (defScope s_told) := ⟨rfl, rfl, rfl, by decide +kernel, rfl, by decide +kernel, by decide +kernel⟩
abbrev s_parts_of : Stmt := topS 54
theorem sc_parts_of : FnScope ["ledger", "stretch", "entries", "grain", "spans", "arc", "lesser", "parts", "number", "part"] ["ledger", "stretch"] (defScope s_parts_of) := ⟨rfl, rfl, rfl, by decide +kernel, rfl, by decide +kernel, by decide +kernel⟩
abbrev s_numbers : Stmt := topS 55
theorem sc_numbers : FnScope ["ledger", "stretch", "grain", "parts", "number", "part"] ["ledger", "stretch"] (defScope s_numbers) := ⟨rfl, rfl, rfl, by decide +kernel, rfl, by decide +kernel, by decide +kernel⟩
abbrev s_u_law_right : Stmt := topS 76
theorem sc_u_law_right : FnScope ["bag", "entries", "statements", "last", "grain", "found", "ledger", "spans", "end", "first", "stretch", "due", "day", "number"] ["bag"] (defScope s_u_law_right) := ⟨rfl, rfl, rfl, by decide +kernel, rfl, by decide +kernel, by decide +kernel⟩
abbrev s_law : Stmt := topS 77
theorem sc_law : FnScope ["script", "k", "bag", "turn"] ["script"] (defScope s_law) := ⟨rfl, rfl, rfl, by decide +kernel, rfl, by decide +kernel, by decide +kernel⟩
abbrev s_I : Stmt := inClass (topS 58) 2
theorem sc_I : FnScope ["self"] ["self"] (defScope s_I) := ⟨rfl, rfl, rfl, by decide +kernel, rfl, by decide +kernel, by decide +kernel⟩
/-- what the top has left -/
structure Top (K : PySem.W.Frag) (w : World) (mg : Str → Option Value) (cC : Addr) (aI : Addr) (dI : FuncData) (a_u_law_bag : Addr) (d_u_law_bag : FuncData) (a_u_law_take : Addr) (d_u_law_take : FuncData) (a_u_law_part : Addr) (d_u_law_part : FuncData) (a_u_law_lowest : Addr) (d_u_law_lowest : FuncData) (a_u_law_amount : Addr) (d_u_law_amount : FuncData) (a_u_law_entry : Addr) (d_u_law_entry : FuncData) (a_u_law_entries : Addr) (d_u_law_entries : FuncData) (a_u_law_grain : Addr) (d_u_law_grain : FuncData) (a_u_law_stretch : Addr) (d_u_law_stretch : FuncData) (a_u_law_before : Addr) (d_u_law_before : FuncData) (a_u_law_told : Addr) (d_u_law_told : FuncData) (a_u_law_statements : Addr) (d_u_law_statements : FuncData) (a_u_law_case : Addr) (d_u_law_case : FuncData) (a_u_law_days : Addr) (d_u_law_days : FuncData) (a_is_integer_kinds : Addr) (d_is_integer_kinds : FuncData) (a_is_within : Addr) (d_is_within : FuncData) (a_is_day : Addr) (d_is_day : FuncData) (a_is_stretch : Addr) (d_is_stretch : FuncData) (a_is_integer_ratios : Addr) (d_is_integer_ratios : FuncData) (a_common : Addr) (d_common : FuncData) (a_is_ratio : Addr) (d_is_ratio : FuncData) (a_is_amount : Addr) (d_is_amount : FuncData) (a_are_amounts : Addr) (d_are_amounts : FuncData) (a_wrong_part : Addr) (d_wrong_part : FuncData) (a_check_item : Addr) (d_check_item : FuncData) (a_M_numbered : Addr) (d_M_numbered : FuncData) (a_M_of_kind : Addr) (d_M_of_kind : FuncData) (a_M_add : Addr) (d_M_add : FuncData) (a_M_need : Addr) (d_M_need : FuncData) (a_M_drop : Addr) (d_M_drop : FuncData) (a_u_law_ledger : Addr) (d_u_law_ledger : FuncData) (a_lowest : Addr) (d_lowest : FuncData) (a_grain_of : Addr) (d_grain_of : FuncData) (a_as_ratios : Addr) (d_as_ratios : FuncData) (a_meet : Addr) (d_meet : FuncData) (a_arc_of : Addr) (d_arc_of : FuncData) (a_given_before : Addr) (d_given_before : FuncData) (a_units_before : Addr) (d_units_before : FuncData) (a_greater_arc : Addr) (d_greater_arc : FuncData) (a_lesser_number : Addr) (d_lesser_number : FuncData) (a_outside : Addr) (d_outside : FuncData) (a_allowed_units : Addr) (d_allowed_units : FuncData) (a_left_units : Addr) (d_left_units : FuncData) (a_M_entries : Addr) (d_M_entries : FuncData) (a_M_statements : Addr) (d_M_statements : FuncData) (a_left : Addr) (d_left : FuncData) (a_u_law_near : Addr) (d_u_law_near : FuncData) (a_is_cut : Addr) (d_is_cut : FuncData) (a_check_cut : Addr) (d_check_cut : FuncData) (a_check_stretch : Addr) (d_check_stretch : FuncData) (a_floor_of : Addr) (d_floor_of : FuncData) (a_plus : Addr) (d_plus : FuncData) (a_check_day : Addr) (d_check_day : FuncData) (a_sum_before : Addr) (d_sum_before : FuncData) (a_total_by : Addr) (d_total_by : FuncData) (a_told : Addr) (d_told : FuncData) (a_parts_of : Addr) (d_parts_of : FuncData) (a_numbers : Addr) (d_numbers : FuncData) (a_u_law_right : Addr) (d_u_law_right : FuncData) (a_law : Addr) (d_law : FuncData) : Prop where
  F_u_law_bag : Fun K "_law_bag" "_law_bag" s_u_law_bag a_u_law_bag d_u_law_bag
  g_u_law_bag : mg "_law_bag" = some (.ref a_u_law_bag)
  b_u_law_bag : Binds K d_u_law_bag ["script", "at"] []
  F_u_law_take : Fun K "_law_take" "_law_take" s_u_law_take a_u_law_take d_u_law_take
  g_u_law_take : mg "_law_take" = some (.ref a_u_law_take)
  b_u_law_take : Binds K d_u_law_take ["bag", "size"] []
  F_u_law_part : Fun K "_law_part" "_law_part" s_u_law_part a_u_law_part d_u_law_part
  g_u_law_part : mg "_law_part" = some (.ref a_u_law_part)
  b_u_law_part : Binds K d_u_law_part ["one", "other"] []
  F_u_law_lowest : Fun K "_law_lowest" "_law_lowest" s_u_law_lowest a_u_law_lowest d_u_law_lowest
  g_u_law_lowest : mg "_law_lowest" = some (.ref a_u_law_lowest)
  b_u_law_lowest : Binds K d_u_law_lowest ["top", "under"] []
  F_u_law_amount : Fun K "_law_amount" "_law_amount" s_u_law_amount a_u_law_amount d_u_law_amount
  g_u_law_amount : mg "_law_amount" = some (.ref a_u_law_amount)
  b_u_law_amount : Binds K d_u_law_amount ["bag"] []
  F_u_law_entry : Fun K "_law_entry" "_law_entry" s_u_law_entry a_u_law_entry d_u_law_entry
  g_u_law_entry : mg "_law_entry" = some (.ref a_u_law_entry)
  b_u_law_entry : Binds K d_u_law_entry ["bag", "last"] []
  F_u_law_entries : Fun K "_law_entries" "_law_entries" s_u_law_entries a_u_law_entries d_u_law_entries
  g_u_law_entries : mg "_law_entries" = some (.ref a_u_law_entries)
  b_u_law_entries : Binds K d_u_law_entries ["bag", "last", "most"] []
  F_u_law_grain : Fun K "_law_grain" "_law_grain" s_u_law_grain a_u_law_grain d_u_law_grain
  g_u_law_grain : mg "_law_grain" = some (.ref a_u_law_grain)
  b_u_law_grain : Binds K d_u_law_grain ["entries"] []
  F_u_law_stretch : Fun K "_law_stretch" "_law_stretch" s_u_law_stretch a_u_law_stretch d_u_law_stretch
  g_u_law_stretch : mg "_law_stretch" = some (.ref a_u_law_stretch)
  b_u_law_stretch : Binds K d_u_law_stretch ["bag", "last"] []
  F_u_law_before : Fun K "_law_before" "_law_before" s_u_law_before a_u_law_before d_u_law_before
  g_u_law_before : mg "_law_before" = some (.ref a_u_law_before)
  b_u_law_before : Binds K d_u_law_before ["entries", "day", "grain"] []
  F_u_law_told : Fun K "_law_told" "_law_told" s_u_law_told a_u_law_told d_u_law_told
  g_u_law_told : mg "_law_told" = some (.ref a_u_law_told)
  b_u_law_told : Binds K d_u_law_told ["entries", "unit", "first", "many", "grain"] []
  F_u_law_statements : Fun K "_law_statements" "_law_statements" s_u_law_statements a_u_law_statements d_u_law_statements
  g_u_law_statements : mg "_law_statements" = some (.ref a_u_law_statements)
  b_u_law_statements : Binds K d_u_law_statements ["bag", "entries", "last", "most"] []
  F_u_law_case : Fun K "_law_case" "_law_case" s_u_law_case a_u_law_case d_u_law_case
  g_u_law_case : mg "_law_case" = some (.ref a_u_law_case)
  b_u_law_case : Binds K d_u_law_case ["bag", "most"] []
  F_u_law_days : Fun K "_law_days" "_law_days" s_u_law_days a_u_law_days d_u_law_days
  g_u_law_days : mg "_law_days" = some (.ref a_u_law_days)
  b_u_law_days : Binds K d_u_law_days ["bag", "entries", "last", "grain"] []
  F_is_integer_kinds : Fun K "is_integer" "is_integer" s_is_integer_kinds a_is_integer_kinds d_is_integer_kinds
  g_is_integer_kinds : mg "is_integer_kinds" = some (.ref a_is_integer_kinds)
  b_is_integer_kinds : Binds K d_is_integer_kinds ["thing"] []
  F_is_within : Fun K "is_within" "is_within" s_is_within a_is_within d_is_within
  g_is_within : mg "is_within" = some (.ref a_is_within)
  b_is_within : Binds K d_is_within ["thing", "low", "high"] []
  F_is_day : Fun K "is_day" "is_day" s_is_day a_is_day d_is_day
  g_is_day : mg "is_day" = some (.ref a_is_day)
  b_is_day : Binds K d_is_day ["thing"] []
  F_is_stretch : Fun K "is_stretch" "is_stretch" s_is_stretch a_is_stretch d_is_stretch
  g_is_stretch : mg "is_stretch" = some (.ref a_is_stretch)
  b_is_stretch : Binds K d_is_stretch ["thing"] []
  F_is_integer_ratios : Fun K "is_integer" "is_integer" s_is_integer_ratios a_is_integer_ratios d_is_integer_ratios
  g_is_integer_ratios : mg "is_integer_ratios" = some (.ref a_is_integer_ratios)
  b_is_integer_ratios : Binds K d_is_integer_ratios ["thing"] []
  F_common : Fun K "common" "common" s_common a_common d_common
  g_common : mg "common" = some (.ref a_common)
  b_common : Binds K d_common ["one", "other"] []
  F_is_ratio : Fun K "is_ratio" "is_ratio" s_is_ratio a_is_ratio d_is_ratio
  g_is_ratio : mg "is_ratio" = some (.ref a_is_ratio)
  b_is_ratio : Binds K d_is_ratio ["thing"] []
  F_is_amount : Fun K "is_amount" "is_amount" s_is_amount a_is_amount d_is_amount
  g_is_amount : mg "is_amount" = some (.ref a_is_amount)
  b_is_amount : Binds K d_is_amount ["thing"] []
  F_are_amounts : Fun K "are_amounts" "are_amounts" s_are_amounts a_are_amounts d_are_amounts
  g_are_amounts : mg "are_amounts" = some (.ref a_are_amounts)
  b_are_amounts : Binds K d_are_amounts ["thing"] []
  F_wrong_part : Fun K "wrong_part" "wrong_part" s_wrong_part a_wrong_part d_wrong_part
  g_wrong_part : mg "wrong_part" = some (.ref a_wrong_part)
  b_wrong_part : Binds K d_wrong_part ["thing"] []
  F_check_item : Fun K "check_item" "check_item" s_check_item a_check_item d_check_item
  g_check_item : mg "check_item" = some (.ref a_check_item)
  b_check_item : Binds K d_check_item ["thing"] []
  F_M_numbered : Fun K "numbered" "Ledger.numbered" s_M_numbered a_M_numbered d_M_numbered
  me_M_numbered : Meth K cC "numbered" a_M_numbered
  b_M_numbered : Binds K d_M_numbered ["self"] []
  F_M_of_kind : Fun K "of_kind" "Ledger.of_kind" s_M_of_kind a_M_of_kind d_M_of_kind
  me_M_of_kind : Meth K cC "of_kind" a_M_of_kind
  b_M_of_kind : Binds K d_M_of_kind ["self", "kind"] []
  F_M_add : Fun K "add" "Ledger.add" s_M_add a_M_add d_M_add
  me_M_add : Meth K cC "add" a_M_add
  b_M_add : Binds K d_M_add ["self", "item"] []
  F_M_need : Fun K "need" "Ledger.need" s_M_need a_M_need d_M_need
  me_M_need : Meth K cC "need" a_M_need
  b_M_need : Binds K d_M_need ["self", "number"] []
  F_M_drop : Fun K "drop" "Ledger.drop" s_M_drop a_M_drop d_M_drop
  me_M_drop : Meth K cC "drop" a_M_drop
  b_M_drop : Binds K d_M_drop ["self", "number"] []
  F_u_law_ledger : Fun K "_law_ledger" "_law_ledger" s_u_law_ledger a_u_law_ledger d_u_law_ledger
  g_u_law_ledger : mg "_law_ledger" = some (.ref a_u_law_ledger)
  b_u_law_ledger : Binds K d_u_law_ledger ["bag", "entries", "statements"] []
  F_lowest : Fun K "lowest" "lowest" s_lowest a_lowest d_lowest
  g_lowest : mg "lowest" = some (.ref a_lowest)
  b_lowest : Binds K d_lowest ["top", "under"] []
  F_grain_of : Fun K "grain_of" "grain_of" s_grain_of a_grain_of d_grain_of
  g_grain_of : mg "grain_of" = some (.ref a_grain_of)
  b_grain_of : Binds K d_grain_of ["entries"] []
  F_as_ratios : Fun K "as_ratios" "as_ratios" s_as_ratios a_as_ratios d_as_ratios
  g_as_ratios : mg "as_ratios" = some (.ref a_as_ratios)
  b_as_ratios : Binds K d_as_ratios ["spans", "grain"] []
  F_meet : Fun K "meet" "meet" s_meet a_meet d_meet
  g_meet : mg "meet" = some (.ref a_meet)
  b_meet : Binds K d_meet ["one", "other"] []
  F_arc_of : Fun K "arc_of" "arc_of" s_arc_of a_arc_of d_arc_of
  g_arc_of : mg "arc_of" = some (.ref a_arc_of)
  b_arc_of : Binds K d_arc_of ["low", "high", "grain"] []
  F_given_before : Fun K "given_before" "given_before" s_given_before a_given_before d_given_before
  g_given_before : mg "given_before" = some (.ref a_given_before)
  b_given_before : Binds K d_given_before ["entry", "day", "grain"] []
  F_units_before : Fun K "units_before" "units_before" s_units_before a_units_before d_units_before
  g_units_before : mg "units_before" = some (.ref a_units_before)
  b_units_before : Binds K d_units_before ["entries", "day", "grain"] []
  F_greater_arc : Fun K "greater_arc" "greater_arc" s_greater_arc a_greater_arc d_greater_arc
  g_greater_arc : mg "greater_arc" = some (.ref a_greater_arc)
  b_greater_arc : Binds K d_greater_arc ["entries", "stretch", "grain"] []
  F_lesser_number : Fun K "lesser_number" "lesser_number" s_lesser_number a_lesser_number d_lesser_number
  g_lesser_number : mg "lesser_number" = some (.ref a_lesser_number)
  b_lesser_number : Binds K d_lesser_number ["entries", "stretch", "grain"] []
  F_outside : Fun K "outside" "outside" s_outside a_outside d_outside
  g_outside : mg "outside" = some (.ref a_outside)
  b_outside : Binds K d_outside ["one", "grain"] []
  F_allowed_units : Fun K "allowed_units" "allowed_units" s_allowed_units a_allowed_units d_allowed_units
  g_allowed_units : mg "allowed_units" = some (.ref a_allowed_units)
  b_allowed_units : Binds K d_allowed_units ["entries", "statement", "grain"] []
  F_left_units : Fun K "left_units" "left_units" s_left_units a_left_units d_left_units
  g_left_units : mg "left_units" = some (.ref a_left_units)
  b_left_units : Binds K d_left_units ["entries", "statements", "grain"] []
  F_M_entries : Fun K "entries" "Ledger.entries" s_M_entries a_M_entries d_M_entries
  me_M_entries : Meth K cC "entries" a_M_entries
  b_M_entries : Binds K d_M_entries ["self"] []
  F_M_statements : Fun K "statements" "Ledger.statements" s_M_statements a_M_statements d_M_statements
  me_M_statements : Meth K cC "statements" a_M_statements
  b_M_statements : Binds K d_M_statements ["self"] []
  F_left : Fun K "left" "left" s_left a_left d_left
  g_left : mg "left" = some (.ref a_left)
  b_left : Binds K d_left ["ledger"] []
  F_u_law_near : Fun K "_law_near" "_law_near" s_u_law_near a_u_law_near d_u_law_near
  g_u_law_near : mg "_law_near" = some (.ref a_u_law_near)
  b_u_law_near : Binds K d_u_law_near ["entries", "found", "grain"] []
  F_is_cut : Fun K "is_cut" "is_cut" s_is_cut a_is_cut d_is_cut
  g_is_cut : mg "is_cut" = some (.ref a_is_cut)
  b_is_cut : Binds K d_is_cut ["thing"] []
  F_check_cut : Fun K "check_cut" "check_cut" s_check_cut a_check_cut d_check_cut
  g_check_cut : mg "check_cut" = some (.ref a_check_cut)
  b_check_cut : Binds K d_check_cut ["thing"] []
  F_check_stretch : Fun K "check_stretch" "check_stretch" s_check_stretch a_check_stretch d_check_stretch
  g_check_stretch : mg "check_stretch" = some (.ref a_check_stretch)
  b_check_stretch : Binds K d_check_stretch ["thing"] []
  F_floor_of : Fun K "floor_of" "floor_of" s_floor_of a_floor_of d_floor_of
  g_floor_of : mg "floor_of" = some (.ref a_floor_of)
  b_floor_of : Binds K d_floor_of ["ratio"] []
  F_plus : Fun K "plus" "plus" s_plus a_plus d_plus
  g_plus : mg "plus" = some (.ref a_plus)
  b_plus : Binds K d_plus ["one", "other"] []
  F_check_day : Fun K "check_day" "check_day" s_check_day a_check_day d_check_day
  g_check_day : mg "check_day" = some (.ref a_check_day)
  b_check_day : Binds K d_check_day ["thing"] []
  F_sum_before : Fun K "sum_before" "sum_before" s_sum_before a_sum_before d_sum_before
  g_sum_before : mg "sum_before" = some (.ref a_sum_before)
  b_sum_before : Binds K d_sum_before ["entries", "day"] []
  F_total_by : Fun K "total_by" "total_by" s_total_by a_total_by d_total_by
  g_total_by : mg "total_by" = some (.ref a_total_by)
  b_total_by : Binds K d_total_by ["entries", "cut", "day"] []
  F_told : Fun K "told" "told" s_told a_told d_told
  g_told : mg "told" = some (.ref a_told)
  b_told : Binds K d_told ["ledger", "cut", "stretch"] []
  F_parts_of : Fun K "parts_of" "parts_of" s_parts_of a_parts_of d_parts_of
  g_parts_of : mg "parts_of" = some (.ref a_parts_of)
  b_parts_of : Binds K d_parts_of ["ledger", "stretch"] []
  F_numbers : Fun K "numbers" "numbers" s_numbers a_numbers d_numbers
  g_numbers : mg "numbers" = some (.ref a_numbers)
  b_numbers : Binds K d_numbers ["ledger", "stretch"] []
  F_u_law_right : Fun K "_law_right" "_law_right" s_u_law_right a_u_law_right d_u_law_right
  g_u_law_right : mg "_law_right" = some (.ref a_u_law_right)
  b_u_law_right : Binds K d_u_law_right ["bag"] []
  F_law : Fun K "law" "law" s_law a_law d_law
  g_law : mg "law" = some (.ref a_law)
  b_law : Binds K d_law ["script"] []
  L : LCls K cC
  mgC : mg "Ledger" = some (.ref cC)
  M : Mk K cC aI
  bI : Binds K dI ["self"] []
  m_abs : mg "abs" = none
  m_all : mg "all" = none
  m_bool : mg "bool" = none
  m_divmod : mg "divmod" = none
  m_enumerate : mg "enumerate" = none
  m_int : mg "int" = none
  m_isinstance : mg "isinstance" = none
  m_len : mg "len" = none
  m_list : mg "list" = none
  m_max : mg "max" = none
  m_min : mg "min" = none
  m_range : mg "range" = none
  m_sorted : mg "sorted" = none
  m_str : mg "str" = none
  m_sum : mg "sum" = none
  m_tuple : mg "tuple" = none
  w_ENTRY : Cst K mg "ENTRY" (.str "entry")
  w_LAST_DAY : Cst K mg "LAST_DAY" (.int 1000000000000000000000000000000)
  w_MOST : CDict K w mg "MOST" [("entry", 6), ("statement", 24)]
  w_MOST_AMOUNTS : Cst K mg "MOST_AMOUNTS" (.int 4)
  w_MOST_PART : Cst K mg "MOST_PART" (.int 1000000)
  w_STATEMENT : Cst K mg "STATEMENT" (.str "statement")
section
variable {P : Program} {w : World} {K : PySem.W.Frag} {mg : Str → Option Value} {base : Heap} {cC aI a_u_law_bag a_u_law_take a_u_law_part a_u_law_lowest a_u_law_amount a_u_law_entry a_u_law_entries a_u_law_grain a_u_law_stretch a_u_law_before a_u_law_told a_u_law_statements a_u_law_case a_u_law_days a_is_integer_kinds a_is_within a_is_day a_is_stretch a_is_integer_ratios a_common a_is_ratio a_is_amount a_are_amounts a_wrong_part a_check_item a_M_numbered a_M_of_kind a_M_add a_M_need a_M_drop a_u_law_ledger a_lowest a_grain_of a_as_ratios a_meet a_arc_of a_given_before a_units_before a_greater_arc a_lesser_number a_outside a_allowed_units a_left_units a_M_entries a_M_statements a_left a_u_law_near a_is_cut a_check_cut a_check_stretch a_floor_of a_plus a_check_day a_sum_before a_total_by a_told a_parts_of a_numbers a_u_law_right a_law : Addr} {dI d_u_law_bag d_u_law_take d_u_law_part d_u_law_lowest d_u_law_amount d_u_law_entry d_u_law_entries d_u_law_grain d_u_law_stretch d_u_law_before d_u_law_told d_u_law_statements d_u_law_case d_u_law_days d_is_integer_kinds d_is_within d_is_day d_is_stretch d_is_integer_ratios d_common d_is_ratio d_is_amount d_are_amounts d_wrong_part d_check_item d_M_numbered d_M_of_kind d_M_add d_M_need d_M_drop d_u_law_ledger d_lowest d_grain_of d_as_ratios d_meet d_arc_of d_given_before d_units_before d_greater_arc d_lesser_number d_outside d_allowed_units d_left_units d_M_entries d_M_statements d_left d_u_law_near d_is_cut d_check_cut d_check_stretch d_floor_of d_plus d_check_day d_sum_before d_total_by d_told d_parts_of d_numbers d_u_law_right d_law : FuncData}
/-! ### _law_bag -/
/-- the bag of the digits: its two numbers -/
def spec_u_law_bag (ds : List PyData) (R : List PyData → Prop) : Prop := ∃ (ns : List Int) (k : Int), ds = [.list (ns.map PyData.int), .int k] ∧ 0 ≤ k ∧ k ≤ 100 ∧ ∀ a b : Int, 0 ≤ a → 0 ≤ b → b ≤ 2147483647 → R [.int a, .int b]
theorem len_u_law_bag {ds : List PyData} {R : List PyData → Prop} (h : spec_u_law_bag ds R) : (dA ds).length = 2 := by
  obtain ⟨_, _, rfl, _⟩ := h; rfl
theorem bag_end {cell k q1 q2 : Int} {R : List PyData → Prop} (hR : ∀ a b : Int, 0 ≤ a → 0 ≤ b → b ≤ 2147483647 → R [.int a, .int b]) (large : Int) (hl : 0 ≤ large) (h0 : 0 ≤ q2) (h2 : q2 < 2147483647) : R [.int large, .int (q2 + 1)] := hR _ _ hl (by omega) (by omega)
theorem ok_u_law_bag (T : Top K w mg cC aI dI a_u_law_bag d_u_law_bag a_u_law_take d_u_law_take a_u_law_part d_u_law_part a_u_law_lowest d_u_law_lowest a_u_law_amount d_u_law_amount a_u_law_entry d_u_law_entry a_u_law_entries d_u_law_entries a_u_law_grain d_u_law_grain a_u_law_stretch d_u_law_stretch a_u_law_before d_u_law_before a_u_law_told d_u_law_told a_u_law_statements d_u_law_statements a_u_law_case d_u_law_case a_u_law_days d_u_law_days a_is_integer_kinds d_is_integer_kinds a_is_within d_is_within a_is_day d_is_day a_is_stretch d_is_stretch a_is_integer_ratios d_is_integer_ratios a_common d_common a_is_ratio d_is_ratio a_is_amount d_is_amount a_are_amounts d_are_amounts a_wrong_part d_wrong_part a_check_item d_check_item a_M_numbered d_M_numbered a_M_of_kind d_M_of_kind a_M_add d_M_add a_M_need d_M_need a_M_drop d_M_drop a_u_law_ledger d_u_law_ledger a_lowest d_lowest a_grain_of d_grain_of a_as_ratios d_as_ratios a_meet d_meet a_arc_of d_arc_of a_given_before d_given_before a_units_before d_units_before a_greater_arc d_greater_arc a_lesser_number d_lesser_number a_outside d_outside a_allowed_units d_allowed_units a_left_units d_left_units a_M_entries d_M_entries a_M_statements d_M_statements a_left d_left a_u_law_near d_u_law_near a_is_cut d_is_cut a_check_cut d_check_cut a_check_stretch d_check_stretch a_floor_of d_floor_of a_plus d_plus a_check_day d_check_day a_sum_before d_sum_before a_total_by d_total_by a_told d_told a_parts_of d_parts_of a_numbers d_numbers a_u_law_right d_u_law_right a_law d_law)  :
    FnOkG P w K mg base 1 a_u_law_bag d_u_law_bag ["script", "at"] (upF K (newF spec_u_law_bag)) := by
  refine okP (k := 0) T.F_u_law_bag sc_u_law_bag (n := 6) rfl ?len (fun cdv A outer s H E hr hgs => (wss_cons (ws_set (i := 2) sc_u_law_bag.nd rfl (.inl rfl) (w_tup (wa_cons w_int (wa_cons w_int (wa_cons w_int (wa_cons w_int (wa_cons w_int (wa_cons w_int (wa_cons w_int wa_nil)))))))))
      (wss_cons (ws_set (i := 3) sc_u_law_bag.nd rfl (.inl rfl) (we_ifExp (wt_lt (w_var 1) (w_bi ok_len (wa_cons (w_var 0) wa_nil) (fun t h => pe_callB (call_len_seq.or call_len_str) (by rfl) T.m_len (by decide +kernel) h))) (w_ixJ (w_var 0) (w_var 1) (fun _ _ => rfl)) w_int))
      (wss_cons (ws_set (i := 4) sc_u_law_bag.nd rfl (.inl rfl) (we_ifExp (wt_ge (w_bi ok_abs (wa_cons (w_var 3) wa_nil) (fun t h => pe_callB call_abs (by rfl) T.m_abs (by decide +kernel) h)) (w_pow w_int w_int)) (w_bi ok_abs (wa_cons (w_var 3) wa_nil) (fun t h => pe_callB call_abs (by rfl) T.m_abs (by decide +kernel) h)) w_int))
      (wss_cons (ws_setJ (i := 5) sc_u_law_bag.nd rfl (.inl rfl) (w_mod (w_pow (w_add (w_add (w_mod (w_var 3) w_int) (w_mul w_int (w_var 1))) w_int) w_int) (w_ixJ (w_var 2) (w_mod (w_var 1) w_int) (fun _ _ => rfl))))
      (wss_one (ws_retN (wn_list (wa_cons (w_var 4) (wa_cons (w_add (w_mod (w_mul (w_var 5) (w_add (w_add (w_fdiv (w_var 5) w_int) (w_mul w_int (w_var 1))) w_int)) (w_ixJ (w_var 2) (w_mod (w_add (w_var 1) w_int) w_int) (fun _ _ => rfl))) w_int) wa_nil)))))))))) ?body
  case len =>
    rintro args S R ⟨rfl, ds, R0, rfl, h, q⟩
    exact len_u_law_bag h
  case body =>
    rintro args S R ⟨rfl, ds, R0, rfl, h, q⟩
    obtain ⟨ns, kk, rfl, h0, h1, hR⟩ := h
    have primes : ∀ i : Int, 0 ≤ i → i < 7 → ∃ p : Int, ixD [.int 2147483647, .int 2147483629, .int 2147483587, .int 2147483579, .int 2147483563, .int 2147483549, .int 2147483543] i = some (.int p) ∧ 0 < p ∧ p ≤ 2147483647 := by
      intro i a b
      have : i = 0 ∨ i = 1 ∨ i = 2 ∨ i = 3 ∨ i = 4 ∨ i = 5 ∨ i = 6 := by omega
      rcases this with rfl | rfl | rfl | rfl | rfl | rfl | rfl <;> exact ⟨_, rfl, by decide, by decide⟩
    obtain ⟨p1, e1, a1, b1⟩ := primes (kk % 7) (Int.emod_nonneg _ (by decide)) (Int.emod_lt_of_pos _ (by decide))
    obtain ⟨p2, e2, a2, b2⟩ := primes ((kk + 2) % 7) (Int.emod_nonneg _ (by decide)) (Int.emod_lt_of_pos _ (by decide))
    walk_at "w"
    refine j_ie (fun v => ∃ c : Int, v = .int c) ?_ ?_
    · by_cases hc : kk < ns.length
      · obtain ⟨v, hv⟩ := ix_map (ns := ns) h0 hc
        refine ⟨_, ⟨v, rfl⟩, fun k' hk => tie_ (brT (decide_eq_true (by rw [List.length_map]; exact hc)) (ix_ok hv hk))⟩
      · exact ⟨_, ⟨0, rfl⟩, fun k' hk => tie_ (brF (decide_eq_false (by rw [List.length_map]; exact hc)) hk)⟩
    rintro _ ⟨cell, rfl⟩
    walk_at "w"
    refine j_ie (fun v => ∃ c : Int, v = .int c ∧ 0 ≤ c) ?_ ?_
    · by_cases hc : (10 : Int) ^ Int.toNat 18 ≤ (if cell < 0 then -cell else cell)
      · exact ⟨_, ⟨if cell < 0 then -cell else cell, rfl, by split <;> omega⟩, fun k' hk => tie_ ⟨by decide, brT (decide_eq_true hc) hk⟩⟩
      · exact ⟨_, ⟨0, rfl, by decide⟩, fun k' hk => tie_ ⟨by decide, brF (decide_eq_false hc) hk⟩⟩
    rintro _ ⟨large, rfl, hl⟩
    have m0 := Int.emod_nonneg cell (show (2305843009213693951 : Int) ≠ 0 by decide)
    have m1 := Int.emod_lt_of_pos cell (show (0 : Int) < 2305843009213693951 by decide)
    walk_at "w"
    refine j_st (fun v => ∃ m : Int, v = .int m ∧ 0 ≤ m ∧ m ≤ 2147483647) ?_ ?_
    · exact ⟨_, ⟨_, rfl, Int.emod_nonneg _ (show p1 ≠ 0 by omega), Int.le_trans (Int.le_of_lt (Int.emod_lt_of_pos _ a1)) b1⟩, fun k' hk => ⟨pos, mulP (m := 40) (n := 40) (by decide) (by omega), ⟨by decide, by decide, by omega⟩, pos, ix_ok e1 ⟨a1, hk⟩⟩⟩
    rintro _ ⟨mixed, rfl, x0, x1⟩
    refine ⟨⟨pos, by show (Int.natAbs 5).log2 < 9000; decide⟩, mulP (m := 40) (n := 40) (by decide) (by omega), mulP (m := 40) (n := 40) (by omega) (by omega), pos, ix_ok e2 ⟨a2, ?_⟩⟩
    have y0 := Int.emod_nonneg (mixed * (mixed / 5 + 3 * kk + 11)) (show p2 ≠ 0 by omega)
    have y1 := Int.emod_lt_of_pos (mixed * (mixed / 5 + 3 * kk + 11)) a2
    exact q _ (hR _ _ hl (by omega) (by omega)) 0 [_] rfl
/-! ### _law_take -/

theorem ok_u_law_take (T : Top K w mg cC aI dI a_u_law_bag d_u_law_bag a_u_law_take d_u_law_take a_u_law_part d_u_law_part a_u_law_lowest d_u_law_lowest a_u_law_amount d_u_law_amount a_u_law_entry d_u_law_entry a_u_law_entries d_u_law_entries a_u_law_grain d_u_law_grain a_u_law_stretch d_u_law_stretch a_u_law_before d_u_law_before a_u_law_told d_u_law_told a_u_law_statements d_u_law_statements a_u_law_case d_u_law_case a_u_law_days d_u_law_days a_is_integer_kinds d_is_integer_kinds a_is_within d_is_within a_is_day d_is_day a_is_stretch d_is_stretch a_is_integer_ratios d_is_integer_ratios a_common d_common a_is_ratio d_is_ratio a_is_amount d_is_amount a_are_amounts d_are_amounts a_wrong_part d_wrong_part a_check_item d_check_item a_M_numbered d_M_numbered a_M_of_kind d_M_of_kind a_M_add d_M_add a_M_need d_M_need a_M_drop d_M_drop a_u_law_ledger d_u_law_ledger a_lowest d_lowest a_grain_of d_grain_of a_as_ratios d_as_ratios a_meet d_meet a_arc_of d_arc_of a_given_before d_given_before a_units_before d_units_before a_greater_arc d_greater_arc a_lesser_number d_lesser_number a_outside d_outside a_allowed_units d_allowed_units a_left_units d_left_units a_M_entries d_M_entries a_M_statements d_M_statements a_left d_left a_u_law_near d_u_law_near a_is_cut d_is_cut a_check_cut d_check_cut a_check_stretch d_check_stretch a_floor_of d_floor_of a_plus d_plus a_check_day d_check_day a_sum_before d_sum_before a_total_by d_total_by a_told d_told a_parts_of d_parts_of a_numbers d_numbers a_u_law_right d_u_law_right a_law d_law)  :
    FnOkG P w K mg base 1 a_u_law_take d_u_law_take ["bag", "size"] (upF K (mutF spec_take)) := by
  refine okP (k := 0) T.F_u_law_take sc_u_law_take (n := 3) rfl ?len (fun cdv A outer s H E hr hgs => (wss_cons (ws_if (wt_gt (w_ix (w_var 0) w_int (fun _ _ => rfl)) w_int) (wss_cons (ws_set (i := 2) sc_u_law_take.nd rfl (.inl rfl) (w_mod (w_ix (w_var 0) w_int (fun _ _ => rfl)) (w_var 1)))
      (wss_cons (ws_sub (w_var 0) w_int (w_fdiv (w_ix (w_var 0) w_int (fun _ _ => rfl)) (w_var 1)))
      (wss_one (ws_ret (w_var 2))))) wss_nil)
      (wss_cons (ws_sub (w_var 0) w_int (w_mod (w_mul (w_ix (w_var 0) w_int (fun _ _ => rfl)) w_int) w_int))
      (wss_one (ws_ret (w_mod (w_fdiv (w_mod (w_mul (w_ix (w_var 0) w_int (fun _ _ => rfl)) w_int) w_int) (w_pow w_int w_int)) (w_var 1))))))) ?body
  case len =>
    rintro args S R ⟨xs, ds, R0, rfl, rfl, h, q⟩
    exact len_take h
  case body =>
    rintro args S R ⟨xs, ds, R0, rfl, rfl, h, q⟩
    obtain ⟨a, b, n, rfl, rfl, ⟨h0, h1, h2⟩, h3, h4, hR⟩ := h
    walk_at "w"
    refine brD (fun h5 => ?_) (fun h5 => ?_)
    · refine ⟨h3, ⟨h3, h4⟩, ?_⟩
      exact q _ _ (hR _ _ _ (Int.emod_nonneg _ (by omega)) (Int.emod_lt_of_pos _ h3) ⟨Int.ediv_nonneg h0 (by omega), h1, h2⟩) _
    · refine ⟨mulP (m := 40) (n := 40) (by omega) (by omega), pos, ?_⟩
      refine ⟨mulP (m := 40) (n := 40) (by omega) (by omega), pos, by decide, ⟨pos, by show (Int.natAbs 256).log2 < 9000; decide⟩, h3, ?_⟩
      exact q _ _ (hR _ _ _ (Int.emod_nonneg _ (by omega)) (Int.emod_lt_of_pos _ h3) ⟨h0, by omega, by omega⟩) _
/-! ### _law_part -/

theorem ok_u_law_part (T : Top K w mg cC aI dI a_u_law_bag d_u_law_bag a_u_law_take d_u_law_take a_u_law_part d_u_law_part a_u_law_lowest d_u_law_lowest a_u_law_amount d_u_law_amount a_u_law_entry d_u_law_entry a_u_law_entries d_u_law_entries a_u_law_grain d_u_law_grain a_u_law_stretch d_u_law_stretch a_u_law_before d_u_law_before a_u_law_told d_u_law_told a_u_law_statements d_u_law_statements a_u_law_case d_u_law_case a_u_law_days d_u_law_days a_is_integer_kinds d_is_integer_kinds a_is_within d_is_within a_is_day d_is_day a_is_stretch d_is_stretch a_is_integer_ratios d_is_integer_ratios a_common d_common a_is_ratio d_is_ratio a_is_amount d_is_amount a_are_amounts d_are_amounts a_wrong_part d_wrong_part a_check_item d_check_item a_M_numbered d_M_numbered a_M_of_kind d_M_of_kind a_M_add d_M_add a_M_need d_M_need a_M_drop d_M_drop a_u_law_ledger d_u_law_ledger a_lowest d_lowest a_grain_of d_grain_of a_as_ratios d_as_ratios a_meet d_meet a_arc_of d_arc_of a_given_before d_given_before a_units_before d_units_before a_greater_arc d_greater_arc a_lesser_number d_lesser_number a_outside d_outside a_allowed_units d_allowed_units a_left_units d_left_units a_M_entries d_M_entries a_M_statements d_M_statements a_left d_left a_u_law_near d_u_law_near a_is_cut d_is_cut a_check_cut d_check_cut a_check_stretch d_check_stretch a_floor_of d_floor_of a_plus d_plus a_check_day d_check_day a_sum_before d_sum_before a_total_by d_total_by a_told d_told a_parts_of d_parts_of a_numbers d_numbers a_u_law_right d_u_law_right a_law d_law)  :
    FnOkG P w K mg base 1 a_u_law_part d_u_law_part ["one", "other"] (upF K (pur spec_gcd)) := by
  refine okP (k := 0) T.F_u_law_part sc_u_law_part (n := 2) rfl ?len (fun cdv A outer s H E hr hgs => (wss_cons (ws_while PassesOwn.never (wt_ne hr (w_var 1) w_int) (wss_one (ws_par (i := 0) (j := 1) rfl sc_u_law_part.nd rfl rfl (by decide) rfl rfl (wa_cons (w_var 1) (wa_cons (w_modS (w_var 0) (w_var 1)) wa_nil)) (by rfl))))
      (wss_one (ws_ret (w_bi ok_abs (wa_cons (w_var 0) wa_nil) (fun t h => pe_callB call_abs (by rfl) T.m_abs (by decide +kernel) h)))))) ?body
  case len =>
    rintro args S R ⟨rfl, ds, R0, rfl, h, q⟩
    exact len_gcd h
  case body =>
    rintro args S R ⟨rfl, ds, R0, rfl, h, q⟩
    obtain ⟨a, b, rfl, hR⟩ := h
    refine ⟨fun m ρ S => ∃ x y : Int, ρ = [some (.d (.int x)), some (.d (.int y))] ∧ S = [] ∧ m = y.natAbs ∧ Int.gcd x y = Int.gcd a b, ⟨_, a, b, rfl, rfl, rfl, rfl⟩, ?_⟩
    rintro m _ _ ⟨x, y, rfl, rfl, rfl, hg⟩
    walk_at "w"
    refine brN (fun hy => ?_) (fun hy => ?_)
    · exact ⟨hy, .inl ⟨_, fmod_abs_lt x hy, y, x.fmod y, rfl, rfl, rfl, by rw [gcd_fmod, hg]⟩⟩
    · subst hy
      refine q _ ?_ []
      rw [gcd_end, hg]; exact hR
/-! ### _law_lowest -/

theorem ok_u_law_lowest (T : Top K w mg cC aI dI a_u_law_bag d_u_law_bag a_u_law_take d_u_law_take a_u_law_part d_u_law_part a_u_law_lowest d_u_law_lowest a_u_law_amount d_u_law_amount a_u_law_entry d_u_law_entry a_u_law_entries d_u_law_entries a_u_law_grain d_u_law_grain a_u_law_stretch d_u_law_stretch a_u_law_before d_u_law_before a_u_law_told d_u_law_told a_u_law_statements d_u_law_statements a_u_law_case d_u_law_case a_u_law_days d_u_law_days a_is_integer_kinds d_is_integer_kinds a_is_within d_is_within a_is_day d_is_day a_is_stretch d_is_stretch a_is_integer_ratios d_is_integer_ratios a_common d_common a_is_ratio d_is_ratio a_is_amount d_is_amount a_are_amounts d_are_amounts a_wrong_part d_wrong_part a_check_item d_check_item a_M_numbered d_M_numbered a_M_of_kind d_M_of_kind a_M_add d_M_add a_M_need d_M_need a_M_drop d_M_drop a_u_law_ledger d_u_law_ledger a_lowest d_lowest a_grain_of d_grain_of a_as_ratios d_as_ratios a_meet d_meet a_arc_of d_arc_of a_given_before d_given_before a_units_before d_units_before a_greater_arc d_greater_arc a_lesser_number d_lesser_number a_outside d_outside a_allowed_units d_allowed_units a_left_units d_left_units a_M_entries d_M_entries a_M_statements d_M_statements a_left d_left a_u_law_near d_u_law_near a_is_cut d_is_cut a_check_cut d_check_cut a_check_stretch d_check_stretch a_floor_of d_floor_of a_plus d_plus a_check_day d_check_day a_sum_before d_sum_before a_total_by d_total_by a_told d_told a_parts_of d_parts_of a_numbers d_numbers a_u_law_right d_u_law_right a_law d_law) (G_u_law_part : FnOkG P w K mg base 1 a_u_law_part d_u_law_part ["one", "other"] (upF K (pur spec_gcd))) :
    FnOkG P w K mg base 2 a_u_law_lowest d_u_law_lowest ["top", "under"] (upF K (pur spec_low)) := by
  refine okP (k := 1) T.F_u_law_lowest sc_u_law_lowest (n := 3) rfl ?len (fun cdv A outer s H E hr hgs => (wss_cons (ws_set (i := 2) sc_u_law_lowest.nd rfl (.inl rfl) (w_call G_u_law_part hr hgs (by rfl) T.g_u_law_part T.F_u_law_part.kp T.b_u_law_part (wa_cons (w_var 0) (wa_cons (w_var 1) wa_nil))))
      (wss_cons (ws_ifJ (wt_lt (w_var 1) w_int) (wss_one (ws_set (i := 2) sc_u_law_lowest.nd rfl (.inl rfl) (w_neg (w_var 2)))) wss_nil)
      (wss_one (ws_ret (w_tup (wa_cons (w_fdivS (w_var 0) (w_var 2)) (wa_cons (w_fdivS (w_var 1) (w_var 2)) wa_nil)))))))) ?body
  case len =>
    rintro args S R ⟨rfl, ds, R0, rfl, h, q⟩
    exact len_low h
  case body =>
    rintro args S R ⟨rfl, ds, R0, rfl, h, q⟩
    obtain ⟨t, u, rfl, h0, hb, hR⟩ := h
    refine ⟨t, u, rfl, ?_⟩
    walk_at "w"
    refine j_if (fun ρ S => ρ = [some (.d (.int t)), some (.d (.int u)), some (.d (.int (sgd t u)))] ∧ S = []) ?_ ?_
    · by_cases hu : u < 0
      · exact ⟨_, _, ⟨by rw [show sgd t u = -((Int.gcd t u : Nat) : Int) from if_pos hu], rfl⟩, fun E' h => brT (decide_eq_true hu) h⟩
      · exact ⟨_, _, ⟨by rw [show sgd t u = ((Int.gcd t u : Nat) : Int) from if_neg hu], rfl⟩, fun E' h => brF (decide_eq_false hu) h⟩
    rintro _ _ ⟨rfl, rfl⟩
    have hs := sgd_ok (t := t) h0 hb
    exact ⟨hs, hs, q _ hR []⟩
/-! ### entries -/
structure Ent where
  first : Int
  many : Int
  am : List (Int × Int)
@[reducible] def ratD (r : Int × Int) : PyData := .tuple [.int r.1, .int r.2]
@[reducible] def entD (e : Ent) : PyData := .tuple [.str "entry", .int e.first, .int e.many, .tuple (e.am.map ratD)]
structure AmOk (r : Int × Int) : Prop where
  ok : RatOk r.1 r.2
  top : r.1.natAbs ≤ 10 ^ 6
  und : r.2 ≤ 10 ^ 6
structure EntOk (e : Ent) : Prop where
  f0 : 0 ≤ e.first
  m1 : 1 ≤ e.many
  sum : e.first + e.many ≤ 10 ^ 30
  l1 : 1 ≤ e.am.length
  l4 : e.am.length ≤ 4
  ams : ∀ r ∈ e.am, AmOk r
/-- the least common multiple -/
def lcmZ (g u : Int) : Int := g * u / (Int.gcd g u : Nat)
theorem lcmZ_ok {g u : Int} (hg : 0 < g) (hu : 0 < u) : 0 < lcmZ g u ∧ g ∣ lcmZ g u ∧ u ∣ lcmZ g u ∧ lcmZ g u ≤ g * u ∧ lcmZ g u = g * (u / (Int.gcd g u : Nat)) := by
  have hp : (0 : Int) < (Int.gcd g u : Nat) := by exact_mod_cast Int.gcd_pos_of_ne_zero_right g (Int.ne_of_gt hu)
  have d1 : ((Int.gcd g u : Nat) : Int) ∣ u := Int.gcd_dvd_right g u
  have d2 : ((Int.gcd g u : Nat) : Int) ∣ g := Int.gcd_dvd_left g u
  have e1 : lcmZ g u = g * (u / (Int.gcd g u : Nat)) := by unfold lcmZ; rw [Int.mul_ediv_assoc g d1]
  have e2 : lcmZ g u = u * (g / (Int.gcd g u : Nat)) := by unfold lcmZ; rw [Int.mul_comm g u, Int.mul_ediv_assoc u d2]
  have q : 0 < u / (Int.gcd g u : Nat) := Int.ediv_pos_of_pos_of_dvd hu (Int.le_of_lt hp) d1
  have q2 : u / (Int.gcd g u : Nat) ≤ u := Int.ediv_le_self _ (Int.le_of_lt hu)
  refine ⟨by rw [e1]; exact Int.mul_pos hg q, ⟨_, e1⟩, ⟨_, e2⟩, by rw [e1]; exact Int.mul_le_mul_of_nonneg_left q2 (Int.le_of_lt hg), e1⟩
def gr1 (g : Int) (am : List (Int × Int)) : Int := am.foldl (fun g r => lcmZ g r.2) g
def grain (es : List Ent) : Int := es.foldl (fun g e => gr1 g e.am) 1
theorem gr1_ok : ∀ {am : List (Int × Int)} {g : Int}, 0 < g → (∀ r ∈ am, AmOk r) → 0 < gr1 g am ∧ g ∣ gr1 g am ∧ (∀ r ∈ am, r.2 ∣ gr1 g am) ∧ gr1 g am ≤ g * (10 ^ 6) ^ am.length
  | [], g, hg, _ => ⟨hg, Int.dvd_refl _, fun r hr => (by cases hr), by rw [List.length_nil, Int.pow_zero, Int.mul_one]; exact Int.le_refl _⟩
  | r :: am, g, hg, h => by
    have hr := h r (by simp)
    obtain ⟨a1, a2, a3, a4, _⟩ := lcmZ_ok hg hr.ok.1
    obtain ⟨b1, b2, b3, b4⟩ := gr1_ok (am := am) a1 fun x hx => h x (by simp [hx])
    refine ⟨b1, Int.dvd_trans a2 b2, fun x hx => ?_, Int.le_trans b4 ?_⟩
    · rcases List.mem_cons.mp hx with rfl | hx
      · exact Int.dvd_trans a3 b2
      · exact b3 x hx
    · have p : (0 : Int) ≤ (10 ^ 6) ^ am.length := Int.le_of_lt (Int.pow_pos (by decide))
      rw [List.length_cons, Int.pow_succ (10 ^ 6) am.length, Int.mul_comm ((10 ^ 6) ^ am.length) (10 ^ 6), ← Int.mul_assoc]
      refine Int.mul_le_mul_of_nonneg_right (Int.le_trans a4 ?_) p
      exact Int.mul_le_mul_of_nonneg_left hr.und (Int.le_of_lt hg)
theorem grain_ok' : ∀ {es : List Ent} {g : Int}, 0 < g → (∀ e ∈ es, EntOk e) → 0 < es.foldl (fun g e => gr1 g e.am) g ∧ g ∣ es.foldl (fun g e => gr1 g e.am) g ∧ (∀ e ∈ es, ∀ r ∈ e.am, r.2 ∣ es.foldl (fun g e => gr1 g e.am) g) ∧
    es.foldl (fun g e => gr1 g e.am) g ≤ g * (10 ^ 24) ^ es.length
  | [], g, hg, _ => ⟨hg, Int.dvd_refl _, fun r hr => (by cases hr), by rw [List.length_nil, Int.pow_zero, Int.mul_one]; exact Int.le_refl _⟩
  | e :: es, g, hg, h => by
    have he := h e (by simp)
    obtain ⟨a1, a2, a3, a4⟩ := gr1_ok hg he.ams
    obtain ⟨b1, b2, b3, b4⟩ := grain_ok' (es := es) a1 fun x hx => h x (by simp [hx])
    refine ⟨b1, Int.dvd_trans a2 b2, fun x hx r hr => ?_, Int.le_trans b4 ?_⟩
    · rcases List.mem_cons.mp hx with rfl | hx
      · exact Int.dvd_trans (a3 r hr) b2
      · exact b3 x hx r hr
    · have p : (0 : Int) ≤ (10 ^ 24) ^ es.length := Int.le_of_lt (Int.pow_pos (by decide))
      rw [List.length_cons, Int.pow_succ (10 ^ 24) es.length, Int.mul_comm ((10 ^ 24) ^ es.length) (10 ^ 24), ← Int.mul_assoc]
      refine Int.mul_le_mul_of_nonneg_right (Int.le_trans a4 ?_) p
      refine Int.mul_le_mul_of_nonneg_left ?_ (Int.le_of_lt hg)
      have : ((10 ^ 6 : Int)) ^ e.am.length ≤ (10 ^ 6) ^ 4 := by
        have l := he.l4
        have : e.am.length = 0 ∨ e.am.length = 1 ∨ e.am.length = 2 ∨ e.am.length = 3 ∨ e.am.length = 4 := by omega
        rcases this with z | z | z | z | z <;> rw [z] <;> decide
      exact Int.le_trans this (by decide)
theorem pow6 {n : Nat} (h : n ≤ 4) : ((10 : Int) ^ 6) ^ n ≤ 10 ^ 24 := by
  have : n = 0 ∨ n = 1 ∨ n = 2 ∨ n = 3 ∨ n = 4 := by omega
  rcases this with z | z | z | z | z <;> rw [z] <;> decide
theorem gr1_big {am : List (Int × Int)} {g : Int} (hg : 0 < g) (hb : g.natAbs < 2 ^ 700) (h : ∀ r ∈ am, AmOk r) (hl : am.length ≤ 4) : (gr1 g am).natAbs < 2 ^ 800 := by
  obtain ⟨a1, _, _, a4⟩ := gr1_ok hg h
  have l := Int.le_trans a4 (Int.mul_le_mul_of_nonneg_left (pow6 hl) (Int.le_of_lt hg))
  have m : (g * 10 ^ 24).natAbs < 2 ^ 800 := by
    rw [Int.natAbs_mul]
    exact Nat.lt_of_lt_of_le (Nat.mul_lt_mul_of_pos_right hb (by decide)) (by decide)
  omega
theorem low_pos {t u : Int} (h : 0 < u) : lowD t u = .tuple [.int (t / (Int.gcd t u : Nat)), .int (u / (Int.gcd t u : Nat))] := by
  have s : sgd t u = (Int.gcd t u : Nat) := by unfold sgd; rw [if_neg (by omega)]
  have p : (0 : Int) ≤ (Int.gcd t u : Nat) := Int.natCast_nonneg _
  unfold lowD
  rw [s, Int.fdiv_eq_ediv_of_nonneg _ p, Int.fdiv_eq_ediv_of_nonneg _ p]
/-- a number of units that suits the entries -/
structure GrOk (es : List Ent) (g : Int) : Prop where
  pos : 0 < g
  big : g.natAbs < 2 ^ 700
  dvd : ∀ e ∈ es, ∀ r ∈ e.am, r.2 ∣ g
theorem pow24 : ∀ n : Nat, n ≤ 8 → ((10 : Int) ^ 24) ^ n ≤ 10 ^ 192 := fun n h => by
  have : n = 0 ∨ n = 1 ∨ n = 2 ∨ n = 3 ∨ n = 4 ∨ n = 5 ∨ n = 6 ∨ n = 7 ∨ n = 8 := by omega
  rcases this with rfl | rfl | rfl | rfl | rfl | rfl | rfl | rfl | rfl <;> decide
theorem grain_ok {es : List Ent} (h : ∀ e ∈ es, EntOk e) (hl : es.length ≤ 8) : GrOk es (grain es) := by
  obtain ⟨a, _, c, d⟩ := grain_ok' (es := es) (g := 1) (by decide) h
  have l := pow24 es.length hl
  have d' : grain es ≤ 10 ^ 192 := by unfold grain; omega
  have a' : 0 < grain es := a
  refine ⟨a, Nat.lt_of_le_of_lt (m := 10 ^ 192) ?_ (by decide), c⟩
  have : ((grain es).natAbs : Int) = grain es := by omega
  have q : ((grain es).natAbs : Int) ≤ ((10 ^ 192 : Nat) : Int) := by rw [this]; exact_mod_cast d'
  exact_mod_cast q
/-! ### sums before days, in units -/
def pieces (e : Ent) (g : Int) : List Int := e.am.map fun r => r.1 * (g / r.2)
def days (e : Ent) (d : Int) : Int := if e.many < (if 0 > d - e.first then 0 else d - e.first) then e.many else (if 0 > d - e.first then 0 else d - e.first)
theorem days_in {e : Ent} (h : EntOk e) (d : Int) : 0 ≤ days e d ∧ days e d ≤ e.many := by
  have := h.m1
  unfold days; split <;> (try split) <;> omega
def bef (e : Ent) (g d : Int) : Int := days e d / e.am.length * (pieces e g).sum + ((pieces e g).take (days e d % e.am.length).toNat).sum
def before (es : List Ent) (g d : Int) : Int := (es.map fun e => bef e g d).sum

/-! ### _law_amount -/
def amP (d : PyData) : Prop := ∃ r : Int × Int, d = ratD r ∧ AmOk r
theorem low_am {t u : Int} (h : 0 < u) (ht : t.natAbs ≤ 10 ^ 6) (hu : u ≤ 10 ^ 6) : amP (lowD t u) := by
  obtain ⟨n, d, e, ok, _, b1, b2⟩ := low_is (t := t) (Int.ne_of_gt h)
  exact ⟨(n, d), e, ok, by show n.natAbs ≤ _; omega, by show d ≤ _; omega⟩
theorem ok_u_law_amount (T : Top K w mg cC aI dI a_u_law_bag d_u_law_bag a_u_law_take d_u_law_take a_u_law_part d_u_law_part a_u_law_lowest d_u_law_lowest a_u_law_amount d_u_law_amount a_u_law_entry d_u_law_entry a_u_law_entries d_u_law_entries a_u_law_grain d_u_law_grain a_u_law_stretch d_u_law_stretch a_u_law_before d_u_law_before a_u_law_told d_u_law_told a_u_law_statements d_u_law_statements a_u_law_case d_u_law_case a_u_law_days d_u_law_days a_is_integer_kinds d_is_integer_kinds a_is_within d_is_within a_is_day d_is_day a_is_stretch d_is_stretch a_is_integer_ratios d_is_integer_ratios a_common d_common a_is_ratio d_is_ratio a_is_amount d_is_amount a_are_amounts d_are_amounts a_wrong_part d_wrong_part a_check_item d_check_item a_M_numbered d_M_numbered a_M_of_kind d_M_of_kind a_M_add d_M_add a_M_need d_M_need a_M_drop d_M_drop a_u_law_ledger d_u_law_ledger a_lowest d_lowest a_grain_of d_grain_of a_as_ratios d_as_ratios a_meet d_meet a_arc_of d_arc_of a_given_before d_given_before a_units_before d_units_before a_greater_arc d_greater_arc a_lesser_number d_lesser_number a_outside d_outside a_allowed_units d_allowed_units a_left_units d_left_units a_M_entries d_M_entries a_M_statements d_M_statements a_left d_left a_u_law_near d_u_law_near a_is_cut d_is_cut a_check_cut d_check_cut a_check_stretch d_check_stretch a_floor_of d_floor_of a_plus d_plus a_check_day d_check_day a_sum_before d_sum_before a_total_by d_total_by a_told d_told a_parts_of d_parts_of a_numbers d_numbers a_u_law_right d_u_law_right a_law d_law) (G_u_law_lowest : FnOkG P w K mg base 2 a_u_law_lowest d_u_law_lowest ["top", "under"] (upF K (pur spec_low))) (G_u_law_take : FnOkG P w K mg base 1 a_u_law_take d_u_law_take ["bag", "size"] (upF K (mutF spec_take))) :
    FnOkG P w K mg base 3 a_u_law_amount d_u_law_amount ["bag"] (upF K (mutF (spec_draw amP))) := by
  refine okP (k := 2) T.F_u_law_amount sc_u_law_amount (n := 4) rfl ?len (fun cdv A outer s H E hr hgs => (wss_consB (ws_set (i := 1) sc_u_law_amount.nd rfl (.inl rfl) (w_ixJ (w_list (wa_cons w_int (wa_cons w_int (wa_cons w_int (wa_cons w_int (wa_cons w_int (wa_cons w_int (wa_cons w_int (wa_cons w_int (wa_cons w_int (wa_cons w_int (wa_cons w_int wa_nil)))))))))))) (w_callM G_u_law_take (hr.mono (by decide)) hgs (by rfl) T.g_u_law_take T.F_u_law_take.kp T.b_u_law_take (wa_cons (w_var 0) (wa_cons w_int wa_nil))) (fun _ _ => rfl)))
      (wss_consB (ws_set (i := 2) sc_u_law_amount.nd rfl (.inl rfl) (w_list (wa_cons (w_callM G_u_law_take (hr.mono (by decide)) hgs (by rfl) T.g_u_law_take T.F_u_law_take.kp T.b_u_law_take (wa_cons (w_var 0) (wa_cons (w_add (w_mul w_int (w_var 1)) w_int) wa_nil))) (wa_cons (w_sub (w_callM G_u_law_take (hr.mono (by decide)) hgs (by rfl) T.g_u_law_take T.F_u_law_take.kp T.b_u_law_take (wa_cons (w_var 0) (wa_cons (w_add (w_var 1) w_int) wa_nil))) (w_var 1)) (wa_cons w_int (wa_cons (w_sub (w_callM G_u_law_take (hr.mono (by decide)) hgs (by rfl) T.g_u_law_take T.F_u_law_take.kp T.b_u_law_take (wa_cons (w_var 0) (wa_cons w_int wa_nil))) w_int) wa_nil))))))
      (wss_consB (ws_set (i := 3) sc_u_law_amount.nd rfl (.inl rfl) (w_ixJ (w_var 2) (w_callM G_u_law_take (hr.mono (by decide)) hgs (by rfl) T.g_u_law_take T.F_u_law_take.kp T.b_u_law_take (wa_cons (w_var 0) (wa_cons w_int wa_nil))) (fun _ _ => rfl)))
      (wss_one (ws_ret (w_call G_u_law_lowest hr hgs (by rfl) T.g_u_law_lowest T.F_u_law_lowest.kp T.b_u_law_lowest (wa_cons (w_var 3) (wa_cons (w_var 1) wa_nil))))))))) ?body
  case len =>
    rintro args S R ⟨xs, ds, R0, rfl, rfl, h, q⟩
    exact len_draw h
  case body =>
    rintro args S R ⟨xs, ds, R0, rfl, rfl, h, q⟩
    obtain ⟨a, b, rfl, rfl, ok, hR⟩ := h
    walk_at "n"
    refine ⟨a, b, 11, rfl, rfl, ok, by decide, by decide, fun i a1 b1 i0 i1 ok1 => ?_⟩
    walk_at "n"
    have hx : ∃ u : Int, ixD [.int 1, .int 2, .int 3, .int 4, .int 5, .int 6, .int 7, .int 8, .int 9, .int 10, .int 12] i = some (.int u) ∧ 1 ≤ u ∧ u ≤ 12 := by
      have : i = 0 ∨ i = 1 ∨ i = 2 ∨ i = 3 ∨ i = 4 ∨ i = 5 ∨ i = 6 ∨ i = 7 ∨ i = 8 ∨ i = 9 ∨ i = 10 := by omega
      rcases this with rfl | rfl | rfl | rfl | rfl | rfl | rfl | rfl | rfl | rfl | rfl <;> exact ⟨_, rfl, by decide, by decide⟩
    obtain ⟨u, e, u1, u2⟩ := hx
    refine ix_ok e ?_
    walk_at "n"
    have bu : u.natAbs < 2 ^ 10 := by omega
    refine ⟨mulP (m := 10) (by decide) bu, ?_⟩
    walk_at "n"
    refine ⟨a1, b1, 2 * u + 1, rfl, rfl, ok1, by omega, logP (m := 12) (by omega), fun x a2 b2 x0 x1 ok2 => ?_⟩
    refine ⟨a2, b2, u + 1, rfl, rfl, ok2, by omega, logP (m := 12) (by omega), fun y a3 b3 y0 y1 ok3 => ?_⟩
    refine ⟨a3, b3, 60, rfl, rfl, ok3, by decide, by decide, fun z a4 b4 z0 z1 ok4 => ?_⟩
    walk_at "n"
    refine ⟨a4, b4, 4, rfl, rfl, ok4, by decide, by decide, fun j a5 b5 j0 j1 ok5 => ?_⟩
    have hx : ∃ t : Int, ixD [.int x, .int (y - u), .int 1, .int (z - 20)] j = some (.int t) ∧ t.natAbs ≤ 100 := by
      have : j = 0 ∨ j = 1 ∨ j = 2 ∨ j = 3 := by omega
      rcases this with rfl | rfl | rfl | rfl
      · exact ⟨_, rfl, by omega⟩
      · exact ⟨_, rfl, by omega⟩
      · exact ⟨_, rfl, by omega⟩
      · exact ⟨_, rfl, by omega⟩
    obtain ⟨t, e2, ht⟩ := hx
    walk_at "n"
    refine ix_ok e2 ?_
    walk_at "n"
    refine ⟨t, u, rfl, by omega, Nat.lt_of_lt_of_le bu (Nat.pow_le_pow_right (by decide) (by decide)), ?_⟩
    walk_at "n"
    exact q _ _ (hR _ _ _ (low_am (by omega) (by omega) (by omega)) ok5) _
/-! ### _law_entry -/
def spec_entry (xs ds : List PyData) (R : PyData → List PyData → Prop) : Prop := ∃ a b l : Int, xs = [.int a, .int b] ∧ ds = [.int l] ∧ BagOk a b ∧ 0 ≤ l ∧ l.natAbs < 2 ^ 60 ∧
  ∀ (e : Ent) (a' b' : Int), EntOk e → e.first + e.many ≤ l + 1 → BagOk a' b' → R (entD e) [.int a', .int b']
theorem len_entry {xs ds : List PyData} {R : PyData → List PyData → Prop} (h : spec_entry xs ds R) : (PV.cel 0 :: dA ds).length = 2 := by
  obtain ⟨_, _, _, _, rfl, _⟩ := h; rfl
theorem ams_of : ∀ {acc : List PyData}, (∀ d ∈ acc, amP d) → ∃ am : List (Int × Int), acc = am.map ratD ∧ ∀ r ∈ am, AmOk r
  | [], _ => ⟨[], rfl, fun r hr => by cases hr⟩
  | d :: ds, h => by
    obtain ⟨r, rfl, hr⟩ := h d (by simp)
    obtain ⟨am, rfl, ha⟩ := ams_of (acc := ds) fun x hx => h x (by simp [hx])
    exact ⟨r :: am, rfl, fun x hx => by
      rcases List.mem_cons.mp hx with rfl | hx
      · exact hr
      · exact ha x hx⟩
theorem ok_u_law_entry (T : Top K w mg cC aI dI a_u_law_bag d_u_law_bag a_u_law_take d_u_law_take a_u_law_part d_u_law_part a_u_law_lowest d_u_law_lowest a_u_law_amount d_u_law_amount a_u_law_entry d_u_law_entry a_u_law_entries d_u_law_entries a_u_law_grain d_u_law_grain a_u_law_stretch d_u_law_stretch a_u_law_before d_u_law_before a_u_law_told d_u_law_told a_u_law_statements d_u_law_statements a_u_law_case d_u_law_case a_u_law_days d_u_law_days a_is_integer_kinds d_is_integer_kinds a_is_within d_is_within a_is_day d_is_day a_is_stretch d_is_stretch a_is_integer_ratios d_is_integer_ratios a_common d_common a_is_ratio d_is_ratio a_is_amount d_is_amount a_are_amounts d_are_amounts a_wrong_part d_wrong_part a_check_item d_check_item a_M_numbered d_M_numbered a_M_of_kind d_M_of_kind a_M_add d_M_add a_M_need d_M_need a_M_drop d_M_drop a_u_law_ledger d_u_law_ledger a_lowest d_lowest a_grain_of d_grain_of a_as_ratios d_as_ratios a_meet d_meet a_arc_of d_arc_of a_given_before d_given_before a_units_before d_units_before a_greater_arc d_greater_arc a_lesser_number d_lesser_number a_outside d_outside a_allowed_units d_allowed_units a_left_units d_left_units a_M_entries d_M_entries a_M_statements d_M_statements a_left d_left a_u_law_near d_u_law_near a_is_cut d_is_cut a_check_cut d_check_cut a_check_stretch d_check_stretch a_floor_of d_floor_of a_plus d_plus a_check_day d_check_day a_sum_before d_sum_before a_total_by d_total_by a_told d_told a_parts_of d_parts_of a_numbers d_numbers a_u_law_right d_u_law_right a_law d_law) (G_u_law_take : FnOkG P w K mg base 1 a_u_law_take d_u_law_take ["bag", "size"] (upF K (mutF spec_take))) (G_u_law_amount : FnOkG P w K mg base 3 a_u_law_amount d_u_law_amount ["bag"] (upF K (mutF (spec_draw amP)))) :
    FnOkG P w K mg base 4 a_u_law_entry d_u_law_entry ["bag", "last"] (upF K (mutF spec_entry)) := by
  refine okP (k := 3) T.F_u_law_entry sc_u_law_entry (n := 5) rfl ?len (fun cdv A outer s H E hr hgs => (wss_consB (ws_set (i := 2) sc_u_law_entry.nd rfl (.inl rfl) (w_ixJ (w_list (wa_cons w_int (wa_cons (w_callM G_u_law_take (hr.mono (by decide)) hgs (by rfl) T.g_u_law_take T.F_u_law_take.kp T.b_u_law_take (wa_cons (w_var 0) (wa_cons (w_add (w_var 1) w_int) wa_nil))) wa_nil))) (w_callM G_u_law_take (hr.mono (by decide)) hgs (by rfl) T.g_u_law_take T.F_u_law_take.kp T.b_u_law_take (wa_cons (w_var 0) (wa_cons w_int wa_nil))) (fun _ _ => rfl)))
      (wss_consB (ws_set (i := 3) sc_u_law_entry.nd rfl (.inl rfl) (w_ixJ (w_list (wa_cons (w_sub (w_add (w_var 1) w_int) (w_var 2)) (wa_cons (w_add w_int (w_callM G_u_law_take (hr.mono (by decide)) hgs (by rfl) T.g_u_law_take T.F_u_law_take.kp T.b_u_law_take (wa_cons (w_var 0) (wa_cons (w_sub (w_add (w_var 1) w_int) (w_var 2)) wa_nil)))) wa_nil))) (w_callM G_u_law_take (hr.mono (by decide)) hgs (by rfl) T.g_u_law_take T.F_u_law_take.kp T.b_u_law_take (wa_cons (w_var 0) (wa_cons w_int wa_nil))) (fun _ _ => rfl)))
      (wss_one (ws_ret (w_tup (wa_cons w_str (wa_cons (w_var 2) (wa_cons (w_var 3) (wa_cons (w_bi ok_tup (wa_cons (w_ne (wn_lc (own := [("k", 4)]) rfl sc_u_law_entry.nd (wi_range1 (by rfl) T.m_range (wa_cons (w_add w_int (w_callM G_u_law_take (hr.mono (by decide)) hgs (by rfl) T.g_u_law_take T.F_u_law_take.kp T.b_u_law_take (wa_cons (w_var 0) (wa_cons w_int wa_nil)))) wa_nil)) (blkOk_by (N := ["bag", "last", "first", "many", "k"]) (sc := defScope s_u_law_entry) (by decide +kernel)) (by decide) (fun _ _ _ _ _ => (wg_name (i := 4) sc_u_law_entry.nd rfl (.inl rfl))) (fun _ _ _ _ _ => wts_nil) (fun _ _ _ _ _ => (w_callM G_u_law_amount hr hgs (by rfl) T.g_u_law_amount T.F_u_law_amount.kp T.b_u_law_amount (wa_cons (w_var 0) wa_nil))))) wa_nil) (fun t h => pe_callTy call_tuple_of (by rfl) T.m_tuple (by decide +kernel) h)) wa_nil)))))))))) ?body
  case len =>
    rintro args S R ⟨xs, ds, R0, rfl, rfl, h, q⟩
    exact len_entry h
  case body =>
    rintro args S R ⟨xs, ds, R0, rfl, rfl, h, q⟩
    obtain ⟨a, b, l, rfl, rfl, ok, l0, bl, hR⟩ := h
    walk_at "n"
    refine ⟨a, b, l + 1, rfl, rfl, ok, by omega, logP (m := 62) (by omega), fun f0 a1 b1 g0 g1 ok1 => ?_⟩
    refine ⟨a1, b1, 2, rfl, rfl, ok1, by decide, by decide, fun i a2 b2 i0 i1 ok2 => ?_⟩
    have hx : ∃ f : Int, ixD [.int 0, .int f0] i = some (.int f) ∧ 0 ≤ f ∧ f < l + 1 := by
      have : i = 0 ∨ i = 1 := by omega
      rcases this with rfl | rfl
      · exact ⟨_, rfl, by omega, by omega⟩
      · exact ⟨_, rfl, by omega, by omega⟩
    obtain ⟨f, e, f1, f2⟩ := hx
    refine ix_ok e ?_
    walk_at "n"
    refine ⟨a2, b2, l + 1 - f, rfl, rfl, ok2, by omega, logP (m := 62) (by omega), fun x a3 b3 x0 x1 ok3 => ?_⟩
    refine ⟨a3, b3, 2, rfl, rfl, ok3, by decide, by decide, fun j a4 b4 j0 j1 ok4 => ?_⟩
    have hx : ∃ m : Int, ixD [.int (l + 1 - f), .int (1 + x)] j = some (.int m) ∧ 1 ≤ m ∧ f + m ≤ l + 1 := by
      have : j = 0 ∨ j = 1 := by omega
      rcases this with rfl | rfl
      · exact ⟨_, rfl, by omega, by omega⟩
      · exact ⟨_, rfl, by omega, by omega⟩
    obtain ⟨m, e2, m1, m2⟩ := hx
    refine ix_ok e2 ?_
    walk_at "n"
    refine ⟨a4, b4, 4, rfl, rfl, ok4, by decide, by decide, fun n a5 b5 n0 n1 ok5 => ?_⟩
    refine ⟨⟨by omega, by omega⟩, ?_⟩
    refine ⟨by rw [rngD_len]; exact Nat.le_trans (show _ ≤ 4 by omega) (by decide), fun i acc S => ∃ a b : Int, BagOk a b ∧ S = [.lst [.int a, .int b]] ∧ acc.length = i ∧ ∀ d ∈ acc, amP d, ⟨a5, b5, ok5, rfl, rfl, fun d hd => by cases hd⟩, ?_, ?_⟩
    · rintro i d acc _ hd ⟨a, b, ok, rfl, hl, ha⟩
      walk_at "n"
      refine ⟨a, b, rfl, rfl, ok, fun r a' b' hr ok' => ?_⟩
      walk_at "n"
      exact ⟨a', b', ok', rfl, by rw [List.length_append, hl]; rfl, fun d hd => by
        rcases List.mem_append.mp hd with hd | hd
        · exact ha d hd
        · rw [List.mem_singleton] at hd; subst hd; exact hr⟩
    · rintro acc _ ⟨a6, b6, ok6, rfl, hl, ha⟩
      obtain ⟨am, rfl, hm⟩ := ams_of ha
      rw [rngD_len, List.length_map] at hl
      walk_at "n"
      refine q _ _ (hR ⟨f, m, am⟩ _ _ ⟨f1, m1, ?_, ?_, ?_, hm⟩ m2 ok6) _
      · show f + m ≤ 10 ^ 30
        have : l ≤ 2 ^ 60 := by omega
        have : (2 : Int) ^ 60 + 1 ≤ 10 ^ 30 := by decide
        omega
      · show 1 ≤ am.length
        omega
      · show am.length ≤ 4
        omega
/-! ### _law_entries -/
def spec_entries (xs ds : List PyData) (R : List PyData → List PyData → Prop) : Prop := ∃ a b l n : Int, xs = [.int a, .int b] ∧ ds = [.int l, .int n] ∧ BagOk a b ∧ 0 ≤ l ∧ l.natAbs < 2 ^ 60 ∧ 0 ≤ n ∧ n ≤ 1000 ∧
  ∀ (es : List Ent) (a' b' : Int), (∀ e ∈ es, EntOk e) → (∀ e ∈ es, e.first + e.many ≤ l + 1) → es.length ≤ n.toNat → BagOk a' b' → R (es.map entD) [.int a', .int b']
theorem len_entries {xs ds : List PyData} {R : List PyData → List PyData → Prop} (h : spec_entries xs ds R) : (PV.cel 0 :: dA ds).length = 3 := by
  obtain ⟨_, _, _, _, _, rfl, _⟩ := h; rfl
theorem ok_u_law_entries (T : Top K w mg cC aI dI a_u_law_bag d_u_law_bag a_u_law_take d_u_law_take a_u_law_part d_u_law_part a_u_law_lowest d_u_law_lowest a_u_law_amount d_u_law_amount a_u_law_entry d_u_law_entry a_u_law_entries d_u_law_entries a_u_law_grain d_u_law_grain a_u_law_stretch d_u_law_stretch a_u_law_before d_u_law_before a_u_law_told d_u_law_told a_u_law_statements d_u_law_statements a_u_law_case d_u_law_case a_u_law_days d_u_law_days a_is_integer_kinds d_is_integer_kinds a_is_within d_is_within a_is_day d_is_day a_is_stretch d_is_stretch a_is_integer_ratios d_is_integer_ratios a_common d_common a_is_ratio d_is_ratio a_is_amount d_is_amount a_are_amounts d_are_amounts a_wrong_part d_wrong_part a_check_item d_check_item a_M_numbered d_M_numbered a_M_of_kind d_M_of_kind a_M_add d_M_add a_M_need d_M_need a_M_drop d_M_drop a_u_law_ledger d_u_law_ledger a_lowest d_lowest a_grain_of d_grain_of a_as_ratios d_as_ratios a_meet d_meet a_arc_of d_arc_of a_given_before d_given_before a_units_before d_units_before a_greater_arc d_greater_arc a_lesser_number d_lesser_number a_outside d_outside a_allowed_units d_allowed_units a_left_units d_left_units a_M_entries d_M_entries a_M_statements d_M_statements a_left d_left a_u_law_near d_u_law_near a_is_cut d_is_cut a_check_cut d_check_cut a_check_stretch d_check_stretch a_floor_of d_floor_of a_plus d_plus a_check_day d_check_day a_sum_before d_sum_before a_total_by d_total_by a_told d_told a_parts_of d_parts_of a_numbers d_numbers a_u_law_right d_u_law_right a_law d_law) (G_u_law_entry : FnOkG P w K mg base 4 a_u_law_entry d_u_law_entry ["bag", "last"] (upF K (mutF spec_entry))) (G_u_law_take : FnOkG P w K mg base 1 a_u_law_take d_u_law_take ["bag", "size"] (upF K (mutF spec_take))) :
    FnOkG P w K mg base 5 a_u_law_entries d_u_law_entries ["bag", "last", "most"] (upF K (mutN spec_entries)) := by
  refine okP (k := 4) T.F_u_law_entries sc_u_law_entries (n := 4) rfl ?len (fun cdv A outer s H E hr hgs => (wss_one (ws_retN (wn_lc (own := [("k", 3)]) rfl sc_u_law_entries.nd (wi_range1 (by rfl) T.m_range (wa_cons (w_callM G_u_law_take (hr.mono (by decide)) hgs (by rfl) T.g_u_law_take T.F_u_law_take.kp T.b_u_law_take (wa_cons (w_var 0) (wa_cons (w_add (w_var 2) w_int) wa_nil))) wa_nil)) (blkOk_by (N := ["bag", "last", "most", "k"]) (sc := defScope s_u_law_entries) (by decide +kernel)) (by decide) (fun _ _ _ _ _ => (wg_name (i := 3) sc_u_law_entries.nd rfl (.inl rfl))) (fun _ _ _ _ _ => wts_nil) (fun _ _ _ _ _ => (w_callM G_u_law_entry hr hgs (by rfl) T.g_u_law_entry T.F_u_law_entry.kp T.b_u_law_entry (wa_cons (w_var 0) (wa_cons (w_var 1) wa_nil)))))))) ?body
  case len =>
    rintro args S R ⟨xs, ds, R0, rfl, rfl, h, q⟩
    exact len_entries h
  case body =>
    rintro args S R ⟨xs, ds, R0, rfl, rfl, h, q⟩
    obtain ⟨a, b, l, n, rfl, rfl, ok, l0, bl, n0, n1, hR⟩ := h
    walk_at "n"
    refine ⟨a, b, n + 1, rfl, rfl, ok, by omega, logP (m := 62) (by omega), fun k a1 b1 k0 k1 ok1 => ?_⟩
    walk_at "n"
    refine ⟨⟨by omega, by omega⟩, ?_⟩
    refine ⟨by rw [rngD_len]; exact Nat.le_trans (show _ ≤ 1000 by omega) (by decide), fun i acc S => ∃ (a b : Int) (es : List Ent), BagOk a b ∧ S = [.lst [.int a, .int b]] ∧ acc = es.map entD ∧ es.length = i ∧ (∀ e ∈ es, EntOk e) ∧ ∀ e ∈ es, e.first + e.many ≤ l + 1, ⟨a1, b1, [], ok1, rfl, rfl, rfl, fun d hd => (by cases hd), fun d hd => (by cases hd)⟩, ?_, ?_⟩
    · rintro i d acc _ hd ⟨a, b, es, ok, rfl, rfl, hl, h1, h2⟩
      walk_at "n"
      refine ⟨a, b, l, rfl, rfl, ok, l0, bl, fun e a' b' he hs ok' => ?_⟩
      walk_at "n"
      refine ⟨a', b', es ++ [e], ok', rfl, by rw [List.map_append]; rfl, by rw [List.length_append, hl]; rfl, fun x hx => ?_, fun x hx => ?_⟩
      · rcases List.mem_append.mp hx with hx | hx
        · exact h1 x hx
        · rw [List.mem_singleton] at hx; subst hx; exact he
      · rcases List.mem_append.mp hx with hx | hx
        · exact h2 x hx
        · rw [List.mem_singleton] at hx; subst hx; exact hs
    · rintro acc _ ⟨a6, b6, es, ok6, rfl, rfl, hl, h1, h2⟩
      rw [rngD_len] at hl
      walk_at "n"
      exact q _ _ (hR es _ _ h1 h2 (by omega) ok6) 0 _ rfl
/-! ### _law_grain -/
def spec_grainL (ds : List PyData) (R : PyData → Prop) : Prop := ∃ es : List Ent, ds = [.list (es.map entD)] ∧ (∀ e ∈ es, EntOk e) ∧ es.length ≤ 8 ∧ R (.int (grain es))
theorem len_grainL {ds : List PyData} {R : PyData → Prop} (h : spec_grainL ds R) : (dA ds).length = 1 := by
  obtain ⟨_, rfl, _⟩ := h; rfl
theorem ok_u_law_grain (T : Top K w mg cC aI dI a_u_law_bag d_u_law_bag a_u_law_take d_u_law_take a_u_law_part d_u_law_part a_u_law_lowest d_u_law_lowest a_u_law_amount d_u_law_amount a_u_law_entry d_u_law_entry a_u_law_entries d_u_law_entries a_u_law_grain d_u_law_grain a_u_law_stretch d_u_law_stretch a_u_law_before d_u_law_before a_u_law_told d_u_law_told a_u_law_statements d_u_law_statements a_u_law_case d_u_law_case a_u_law_days d_u_law_days a_is_integer_kinds d_is_integer_kinds a_is_within d_is_within a_is_day d_is_day a_is_stretch d_is_stretch a_is_integer_ratios d_is_integer_ratios a_common d_common a_is_ratio d_is_ratio a_is_amount d_is_amount a_are_amounts d_are_amounts a_wrong_part d_wrong_part a_check_item d_check_item a_M_numbered d_M_numbered a_M_of_kind d_M_of_kind a_M_add d_M_add a_M_need d_M_need a_M_drop d_M_drop a_u_law_ledger d_u_law_ledger a_lowest d_lowest a_grain_of d_grain_of a_as_ratios d_as_ratios a_meet d_meet a_arc_of d_arc_of a_given_before d_given_before a_units_before d_units_before a_greater_arc d_greater_arc a_lesser_number d_lesser_number a_outside d_outside a_allowed_units d_allowed_units a_left_units d_left_units a_M_entries d_M_entries a_M_statements d_M_statements a_left d_left a_u_law_near d_u_law_near a_is_cut d_is_cut a_check_cut d_check_cut a_check_stretch d_check_stretch a_floor_of d_floor_of a_plus d_plus a_check_day d_check_day a_sum_before d_sum_before a_total_by d_total_by a_told d_told a_parts_of d_parts_of a_numbers d_numbers a_u_law_right d_u_law_right a_law d_law) (G_u_law_part : FnOkG P w K mg base 1 a_u_law_part d_u_law_part ["one", "other"] (upF K (pur spec_gcd))) :
    FnOkG P w K mg base 2 a_u_law_grain d_u_law_grain ["entries"] (upF K (pur spec_grainL)) := by
  refine okP (k := 1) T.F_u_law_grain sc_u_law_grain (n := 8) rfl ?len (fun cdv A outer s H E hr hgs => (wss_consB (ws_set (i := 1) sc_u_law_grain.nd rfl (.inl rfl) w_int)
      (wss_consB (ws_for PassesOwn.never rfl (wi_list (w_var 0)) (wg_tup (n := 4) rfl (wgs_cons (wg_name (i := 2) sc_u_law_grain.nd rfl (.inl rfl)) (wgs_cons (wg_name (i := 3) sc_u_law_grain.nd rfl (.inl rfl)) (wgs_cons (wg_name (i := 4) sc_u_law_grain.nd rfl (.inl rfl)) (wgs_cons (wg_name (i := 5) sc_u_law_grain.nd rfl (.inl rfl)) wgs_nil))))) (wss_one (ws_for PassesOwn.never rfl (wi_tup (w_var 5)) (wg_tup (n := 2) rfl (wgs_cons (wg_name (i := 6) sc_u_law_grain.nd rfl (.inl rfl)) (wgs_cons (wg_name (i := 7) sc_u_law_grain.nd rfl (.inl rfl)) wgs_nil))) (wss_one (ws_set (i := 1) sc_u_law_grain.nd rfl (.inl rfl) (w_fdiv (w_mul (w_var 1) (w_var 7)) (w_call G_u_law_part hr hgs (by rfl) T.g_u_law_part T.F_u_law_part.kp T.b_u_law_part (wa_cons (w_var 1) (wa_cons (w_var 7) wa_nil)))))))))
      (wss_one (ws_ret (w_var 1)))))) ?body
  case len =>
    rintro args S R ⟨rfl, ds, R0, rfl, h, q⟩
    exact len_grainL h
  case body =>
    rintro args S R ⟨rfl, ds, R0, rfl, h, q⟩
    obtain ⟨es, rfl, hes, hl, hR⟩ := h
    walk_at "n"
    refine ⟨fun i ρ S => ∃ (g : Int) (o1 o2 o3 o4 o5 o6 : Option PV), ρ = [some (.d (.list (es.map entD))), some (.d (.int g)), o1, o2, o3, o4, o5, o6] ∧ S = [] ∧ g = grain (es.take i), ⟨1, _, _, _, _, _, _, rfl, rfl, rfl⟩, ?_, ?_⟩
    · rintro i d _ _ hd ⟨g, o1, o2, o3, o4, o5, o6, rfl, rfl, hg⟩
      rw [List.getElem?_map, Option.map_eq_some_iff] at hd
      obtain ⟨e, he, rfl⟩ := hd
      have hm := List.mem_of_getElem? he
      walk_at "n"
      have ok := hes e hm
      have htk : grain (es.take (i + 1)) = gr1 (grain (es.take i)) e.am := by
        rw [List.take_add_one, he]
        simp [grain, List.foldl_append]
      have hg0 := grain_ok (es := es.take i) (fun x hx => hes x (List.mem_of_mem_take hx)) (by rw [List.length_take]; omega)
      refine ⟨fun j ρ S => ∃ (g1 : Int) (o1 o2 : Option PV), ρ = [some (.d (.list (es.map entD))), some (.d (.int g1)), some (.d (.str "entry")), some (.d (.int e.first)), some (.d (.int e.many)), some (.d (.tuple (e.am.map ratD))), o1, o2] ∧ S = [] ∧ g1 = gr1 g (e.am.take j), ⟨g, _, _, rfl, rfl, rfl⟩, ?_, ?_⟩
      · rintro j d _ _ hd ⟨g1, p1, p2, rfl, rfl, hg1⟩
        rw [List.getElem?_map, Option.map_eq_some_iff] at hd
        obtain ⟨r, hr, rfl⟩ := hd
        have hrm := List.mem_of_getElem? hr
        have rok := ok.ams r hrm
        have g0 : 0 < g := by rw [hg]; exact hg0.pos
        obtain ⟨a1, a2, a3, a4⟩ := gr1_ok (am := e.am.take j) g0 fun x hx => ok.ams x (List.mem_of_mem_take hx)
        have hs : gr1 g (e.am.take (j + 1)) = lcmZ g1 r.2 := by
          rw [List.take_add_one, hr, hg1]
          simp [gr1, List.foldl_append]
        have b1 : g1.natAbs < 2 ^ 800 := by
          rw [hg1]
          exact gr1_big g0 (by rw [hg]; exact hg0.big) (fun x hx => ok.ams x (List.mem_of_mem_take hx)) (by rw [List.length_take]; have := ok.l4; omega)
        have u0 := rok.ok.1
        have bu : r.2.natAbs < 2 ^ 30 := by have := rok.und; omega
        walk_at "n"
        refine ⟨mulP b1 bu, ?_⟩
        walk_at "n"
        refine ⟨g1, r.2, rfl, ?_⟩
        walk_at "n"
        have gp : (0 : Int) < (Int.gcd g1 r.2 : Nat) := by exact_mod_cast Int.gcd_pos_of_ne_zero_right g1 (Int.ne_of_gt u0)
        have gl := gcd_le (t := g1) (Int.ne_of_gt u0)
        refine ⟨⟨gp, logP (m := 30) (by omega)⟩, ?_⟩
        walk_at "n"
        exact .inl ⟨_, _, _, rfl, rfl, by rw [hs]; rfl⟩
      · rintro _ _ ⟨g1, p1, p2, rfl, rfl, hg1⟩
        walk_at "n"
        exact .inl ⟨_, _, _, _, _, _, _, rfl, rfl, by rw [htk, hg1, ← hg, List.length_map, List.take_length]⟩
    · rintro _ _ ⟨g, o1, o2, o3, o4, o5, o6, rfl, rfl, hg⟩
      walk_at "n"
      rw [List.length_map, List.take_length] at hg
      rw [hg]
      exact q _ hR _
/-! ### _law_stretch -/
def spec_stretch (xs ds : List PyData) (R : PyData → List PyData → Prop) : Prop := ∃ a b l : Int, xs = [.int a, .int b] ∧ ds = [.int l] ∧ BagOk a b ∧ 0 ≤ l ∧ l.natAbs < 2 ^ 60 ∧
  ∀ f m a' b' : Int, 0 ≤ f → 1 ≤ m → f + m ≤ l + 1 → BagOk a' b' → R (.tuple [.int f, .int m]) [.int a', .int b']
theorem len_stretch {xs ds : List PyData} {R : PyData → List PyData → Prop} (h : spec_stretch xs ds R) : (PV.cel 0 :: dA ds).length = 2 := by
  obtain ⟨_, _, _, _, rfl, _⟩ := h; rfl
theorem ok_u_law_stretch (T : Top K w mg cC aI dI a_u_law_bag d_u_law_bag a_u_law_take d_u_law_take a_u_law_part d_u_law_part a_u_law_lowest d_u_law_lowest a_u_law_amount d_u_law_amount a_u_law_entry d_u_law_entry a_u_law_entries d_u_law_entries a_u_law_grain d_u_law_grain a_u_law_stretch d_u_law_stretch a_u_law_before d_u_law_before a_u_law_told d_u_law_told a_u_law_statements d_u_law_statements a_u_law_case d_u_law_case a_u_law_days d_u_law_days a_is_integer_kinds d_is_integer_kinds a_is_within d_is_within a_is_day d_is_day a_is_stretch d_is_stretch a_is_integer_ratios d_is_integer_ratios a_common d_common a_is_ratio d_is_ratio a_is_amount d_is_amount a_are_amounts d_are_amounts a_wrong_part d_wrong_part a_check_item d_check_item a_M_numbered d_M_numbered a_M_of_kind d_M_of_kind a_M_add d_M_add a_M_need d_M_need a_M_drop d_M_drop a_u_law_ledger d_u_law_ledger a_lowest d_lowest a_grain_of d_grain_of a_as_ratios d_as_ratios a_meet d_meet a_arc_of d_arc_of a_given_before d_given_before a_units_before d_units_before a_greater_arc d_greater_arc a_lesser_number d_lesser_number a_outside d_outside a_allowed_units d_allowed_units a_left_units d_left_units a_M_entries d_M_entries a_M_statements d_M_statements a_left d_left a_u_law_near d_u_law_near a_is_cut d_is_cut a_check_cut d_check_cut a_check_stretch d_check_stretch a_floor_of d_floor_of a_plus d_plus a_check_day d_check_day a_sum_before d_sum_before a_total_by d_total_by a_told d_told a_parts_of d_parts_of a_numbers d_numbers a_u_law_right d_u_law_right a_law d_law) (G_u_law_take : FnOkG P w K mg base 1 a_u_law_take d_u_law_take ["bag", "size"] (upF K (mutF spec_take))) :
    FnOkG P w K mg base 2 a_u_law_stretch d_u_law_stretch ["bag", "last"] (upF K (mutF spec_stretch)) := by
  refine okP (k := 1) T.F_u_law_stretch sc_u_law_stretch (n := 3) rfl ?len (fun cdv A outer s H E hr hgs => (wss_consB (ws_set (i := 2) sc_u_law_stretch.nd rfl (.inl rfl) (w_callM G_u_law_take hr hgs (by rfl) T.g_u_law_take T.F_u_law_take.kp T.b_u_law_take (wa_cons (w_var 0) (wa_cons (w_add (w_var 1) w_int) wa_nil))))
      (wss_one (ws_ret (w_tup (wa_cons (w_var 2) (wa_cons (w_ixJ (w_list (wa_cons (w_add w_int (w_callM G_u_law_take hr hgs (by rfl) T.g_u_law_take T.F_u_law_take.kp T.b_u_law_take (wa_cons (w_var 0) (wa_cons (w_sub (w_add (w_var 1) w_int) (w_var 2)) wa_nil)))) (wa_cons w_int (wa_cons (w_sub (w_add (w_var 1) w_int) (w_var 2)) wa_nil)))) (w_callM G_u_law_take hr hgs (by rfl) T.g_u_law_take T.F_u_law_take.kp T.b_u_law_take (wa_cons (w_var 0) (wa_cons w_int wa_nil))) (fun _ _ => rfl)) wa_nil))))))) ?body
  case len =>
    rintro args S R ⟨xs, ds, R0, rfl, rfl, h, q⟩
    exact len_stretch h
  case body =>
    rintro args S R ⟨xs, ds, R0, rfl, rfl, h, q⟩
    obtain ⟨a, b, l, rfl, rfl, ok, l0, bl, hR⟩ := h
    walk_at "n"
    refine ⟨a, b, l + 1, rfl, rfl, ok, by omega, logP (m := 62) (by omega), fun f a1 b1 f0 f1 ok1 => ?_⟩
    walk_at "n"
    refine ⟨a1, b1, l + 1 - f, rfl, rfl, ok1, by omega, logP (m := 62) (by omega), fun x a2 b2 x0 x1 ok2 => ?_⟩
    refine ⟨a2, b2, 3, rfl, rfl, ok2, by decide, by decide, fun i a3 b3 i0 i1 ok3 => ?_⟩
    have hx : ∃ m : Int, ixD [.int (1 + x), .int 1, .int (l + 1 - f)] i = some (.int m) ∧ 1 ≤ m ∧ f + m ≤ l + 1 := by
      have : i = 0 ∨ i = 1 ∨ i = 2 := by omega
      rcases this with rfl | rfl | rfl
      · exact ⟨_, rfl, by omega, by omega⟩
      · exact ⟨_, rfl, by omega, by omega⟩
      · exact ⟨_, rfl, by omega, by omega⟩
    obtain ⟨m, e, m1, m2⟩ := hx
    refine ix_ok e ?_
    walk_at "n"
    exact q _ _ (hR _ _ _ _ f0 m1 m2 ok3) _
theorem piece_big {r : Int × Int} {g : Int} (h : AmOk r) (hg : g.natAbs < 2 ^ 700) : (r.1 * (g / r.2)).natAbs < 2 ^ 720 := by
  have d := div_le g h.ok.1
  have t : r.1.natAbs < 2 ^ 20 := Nat.lt_of_le_of_lt h.top (by decide)
  exact mul_lt t (Nat.lt_of_le_of_lt d hg) (by decide)
theorem sum_big {k : Nat} : ∀ {xs : List Int}, (∀ x ∈ xs, x.natAbs < 2 ^ k) → xs.sum.natAbs ≤ xs.length * 2 ^ k
  | [], _ => by simp
  | x :: xs, h => by
    have h1 := h x (by simp)
    have h2 := sum_big (xs := xs) fun y hy => h y (by simp [hy])
    rw [List.sum_cons, List.length_cons, Nat.add_mul]
    omega
theorem pieces_big {e : Ent} {g : Int} (h : EntOk e) (hg : g.natAbs < 2 ^ 700) : ∀ x ∈ pieces e g, x.natAbs < 2 ^ 720 := fun x hx => by
  obtain ⟨r, hr, rfl⟩ := List.mem_map.mp hx
  exact piece_big (h.ams r hr) hg
theorem pieces_len (e : Ent) (g : Int) : (pieces e g).length = e.am.length := List.length_map _
theorem sum_small {e : Ent} {g : Int} (h : EntOk e) (hg : g.natAbs < 2 ^ 700) : (pieces e g).sum.natAbs < 2 ^ 723 ∧ ∀ n, ((pieces e g).take n).sum.natAbs < 2 ^ 723 := by
  have l := h.l4
  have gen : ∀ xs : List Int, (∀ x ∈ xs, x.natAbs < 2 ^ 720) → xs.length ≤ 4 → xs.sum.natAbs < 2 ^ 723 := fun xs hx hl => by
    have := sum_big hx
    have q : xs.length * 2 ^ 720 ≤ 4 * 2 ^ 720 := Nat.mul_le_mul_right _ hl
    have : (4 : Nat) * 2 ^ 720 < 2 ^ 723 := by decide
    omega
  refine ⟨gen _ (pieces_big h hg) (by rw [pieces_len]; omega), fun n => gen _ (fun x hx => pieces_big h hg x (List.mem_of_mem_take hx)) ?_⟩
  rw [List.length_take, pieces_len]; omega
theorem bef_big {e : Ent} {g : Int} (h : EntOk e) (hg : g.natAbs < 2 ^ 700) (d : Int) : (bef e g d).natAbs < 2 ^ 900 := by
  obtain ⟨h1, h2⟩ := sum_small h hg
  obtain ⟨d0, d1⟩ := days_in h d
  have l0 : (0 : Int) < e.am.length := by have := h.l1; omega
  have q := div_le (days e d) l0
  have s := h.sum
  have f := h.f0
  have dd : (days e d).natAbs < 2 ^ 100 := Nat.lt_of_le_of_lt (m := 10 ^ 30) (by omega) (by decide)
  exact add_lt (m := 860) (mul_lt (Nat.lt_of_le_of_lt q dd) h1 (by decide)) (lt_up (h2 _) (by decide)) (by decide)
theorem before_big {es : List Ent} {g : Int} (h : ∀ e ∈ es, EntOk e) (hl : es.length ≤ 8) (hg : g.natAbs < 2 ^ 700) (d : Int) : (before es g d).natAbs < 2 ^ 910 := by
  have := sum_big (k := 900) (xs := es.map fun e => bef e g d) fun x hx => by
    obtain ⟨e, he, rfl⟩ := List.mem_map.mp hx
    exact bef_big (h e he) hg d
  rw [List.length_map] at this
  have q : es.length * 2 ^ 900 ≤ 8 * 2 ^ 900 := Nat.mul_le_mul_right _ hl
  have : (8 : Nat) * 2 ^ 900 < 2 ^ 910 := by decide
  unfold before; omega
/-- what a unit of the ring tells for the days from i to j - 1 -/
def toldBy (es : List Ent) (g u i j : Int) : Int := (before es g j + u) / g - (before es g i + u) / g
/-- a statement -/
structure Sta where
  first : Int
  many : Int
  num : Int
@[reducible] def staD (s : Sta) : PyData := .tuple [.str "statement", .int s.first, .int s.many, .int s.num]
structure StaOk (s : Sta) : Prop where
  f0 : 0 ≤ s.first
  m1 : 1 ≤ s.many
  sum : s.first + s.many ≤ 10 ^ 30
  num : s.num.natAbs < 2 ^ 930
/-- entries and statements that are drawn, on days up to a last one -/
structure CaseOk (es : List Ent) (ss : List Sta) (last : Int) (ne ns : Nat) : Prop where
  eo : ∀ e ∈ es, EntOk e
  el : ∀ e ∈ es, e.first + e.many ≤ last + 1
  en : es.length ≤ ne
  so : ∀ s ∈ ss, StaOk s
  sl : ∀ s ∈ ss, s.first + s.many ≤ last + 1
  sn : ss.length ≤ ns
/-! ### texts -/
theorem shw_rat {n : Nat} {a b : Int} (ha : a.natAbs < 2 ^ 1900) (hb : b.natAbs < 2 ^ 1900) : Shw 4007 (n + 1) (.tuple [.int a, .int b]) := by
  refine (shw_tup (b := 2000) (n := n) (m := 2) (fun x hx => ?_) (by simp)).up (by decide) (Nat.le_refl _)
  simp only [List.mem_cons, List.not_mem_nil, or_false] at hx
  rcases hx with rfl | rfl
  · exact shw_int ha (by decide)
  · exact shw_int hb (by decide)
theorem shw_low {n : Nat} {x g : Int} (hg : g ≠ 0) (hx : x.natAbs < 2 ^ 1900) (hb : g.natAbs < 2 ^ 1900) : Shw 4007 (n + 1) (lowD x g) := by
  obtain ⟨a, b, e, _, _, h1, h2⟩ := low_is (t := x) hg
  rw [e]
  exact shw_rat (by omega) (by omega)
theorem shw_ent {n : Nat} {e : Ent} (h : EntOk e) : Shw 70000 (n + 3) (entD e) := by
  have p : (10 : Nat) ^ 30 < 2 ^ 1900 := by decide
  have f0 := h.f0
  have m1 := h.m1
  have s := h.sum
  refine (shw_tup (b := 17000) (n := n + 2) (m := 4) (fun x hx => ?_) (by simp)).up (by decide) (Nat.le_refl _)
  simp only [List.mem_cons, List.not_mem_nil, or_false] at hx
  rcases hx with rfl | rfl | rfl | rfl
  · exact shw_str _ (by decide +kernel)
  · exact (shw_int (m := 1900) (Nat.lt_of_le_of_lt (m := 10 ^ 30) (by omega) p) (by decide)).up (by decide) (Nat.le_refl _)
  · exact (shw_int (m := 1900) (Nat.lt_of_le_of_lt (m := 10 ^ 30) (by omega) p) (by decide)).up (by decide) (Nat.le_refl _)
  · refine (shw_tup (b := 4007) (n := n + 1) (m := 4) (fun x hx => ?_) (by rw [List.length_map]; exact h.l4)).up (by decide) (Nat.le_refl _)
    obtain ⟨r, hr, rfl⟩ := List.mem_map.mp hx
    have a := h.ams r hr
    have q : (10 : Nat) ^ 6 < 2 ^ 1900 := by decide
    exact shw_rat (Nat.lt_of_le_of_lt a.top q) (Nat.lt_of_le_of_lt (by have := a.und; have := a.ok.1; omega) q)
theorem shw_ents {es : List Ent} (h : ∀ e ∈ es, EntOk e) (hl : es.length ≤ 8) : Shw 600000 4 (.list (es.map entD)) := by
  refine (shw_list (b := 70000) (n := 3) (m := 8) (fun x hx => ?_) (by rw [List.length_map]; exact hl)).up (by decide) (Nat.le_refl _)
  obtain ⟨e, he, rfl⟩ := List.mem_map.mp hx
  exact shw_ent (n := 0) (h e he)

/-! ### _law_before -/
def spec_beforeL (ds : List PyData) (R : PyData → Prop) : Prop := ∃ (es : List Ent) (d g : Int), ds = [.list (es.map entD), .int d, .int g] ∧ (∀ e ∈ es, EntOk e) ∧ es.length ≤ 8 ∧ GrOk es g ∧ R (.int (before es g d))
theorem len_beforeL {ds : List PyData} {R : PyData → Prop} (h : spec_beforeL ds R) : (dA ds).length = 3 := by
  obtain ⟨_, _, _, rfl, _⟩ := h; rfl
def pieceL (g : Int) : PyData → PyData
  | .tuple [.int t, .int u] => .int (t * g / u)
  | _ => .none
theorem piecesL_D {e : Ent} {g : Int} (h : ∀ r ∈ e.am, r.2 ∣ g) : mapD (pieceL g) (e.am.map ratD) = (pieces e g).map PyData.int := by
  rw [mapD_eq, List.map_map, pieces, List.map_map]
  refine List.map_congr_left fun r hr => ?_
  show PyData.int (r.1 * g / r.2) = .int (r.1 * (g / r.2))
  rw [Int.mul_ediv_assoc _ (h r hr)]
theorem ok_u_law_before (T : Top K w mg cC aI dI a_u_law_bag d_u_law_bag a_u_law_take d_u_law_take a_u_law_part d_u_law_part a_u_law_lowest d_u_law_lowest a_u_law_amount d_u_law_amount a_u_law_entry d_u_law_entry a_u_law_entries d_u_law_entries a_u_law_grain d_u_law_grain a_u_law_stretch d_u_law_stretch a_u_law_before d_u_law_before a_u_law_told d_u_law_told a_u_law_statements d_u_law_statements a_u_law_case d_u_law_case a_u_law_days d_u_law_days a_is_integer_kinds d_is_integer_kinds a_is_within d_is_within a_is_day d_is_day a_is_stretch d_is_stretch a_is_integer_ratios d_is_integer_ratios a_common d_common a_is_ratio d_is_ratio a_is_amount d_is_amount a_are_amounts d_are_amounts a_wrong_part d_wrong_part a_check_item d_check_item a_M_numbered d_M_numbered a_M_of_kind d_M_of_kind a_M_add d_M_add a_M_need d_M_need a_M_drop d_M_drop a_u_law_ledger d_u_law_ledger a_lowest d_lowest a_grain_of d_grain_of a_as_ratios d_as_ratios a_meet d_meet a_arc_of d_arc_of a_given_before d_given_before a_units_before d_units_before a_greater_arc d_greater_arc a_lesser_number d_lesser_number a_outside d_outside a_allowed_units d_allowed_units a_left_units d_left_units a_M_entries d_M_entries a_M_statements d_M_statements a_left d_left a_u_law_near d_u_law_near a_is_cut d_is_cut a_check_cut d_check_cut a_check_stretch d_check_stretch a_floor_of d_floor_of a_plus d_plus a_check_day d_check_day a_sum_before d_sum_before a_total_by d_total_by a_told d_told a_parts_of d_parts_of a_numbers d_numbers a_u_law_right d_u_law_right a_law d_law)  :
    FnOkG P w K mg base 1 a_u_law_before d_u_law_before ["entries", "day", "grain"] (upF K (pur spec_beforeL)) := by
  refine okP (k := 0) T.F_u_law_before sc_u_law_before (n := 12) rfl ?len (fun cdv A outer s H E hr hgs => (wss_consB (ws_set (i := 3) sc_u_law_before.nd rfl (.inl rfl) w_int)
      (wss_consB (ws_for PassesOwn.never rfl (wi_list (w_var 0)) (wg_tup (n := 4) rfl (wgs_cons (wg_name (i := 4) sc_u_law_before.nd rfl (.inl rfl)) (wgs_cons (wg_name (i := 5) sc_u_law_before.nd rfl (.inl rfl)) (wgs_cons (wg_name (i := 6) sc_u_law_before.nd rfl (.inl rfl)) (wgs_cons (wg_name (i := 7) sc_u_law_before.nd rfl (.inl rfl)) wgs_nil))))) (wss_consB (ws_setLCf (i := 8) (own := [("top", 10), ("under", 11)]) rfl sc_u_law_before.nd rfl rfl (sw_true rfl rfl rfl (by decide +kernel)) (wi_tup (w_var 7)) (blkOk_by (N := ["entries", "day", "grain", "found", "word", "first", "many", "amounts", "units", "days", "top", "under"]) (sc := defScope s_u_law_before) (by decide +kernel)) (by decide) (fun _ _ _ _ _ => (wg_tup (n := 2) rfl (wgs_cons (wg_name (i := 10) sc_u_law_before.nd rfl (.inl rfl)) (wgs_cons (wg_name (i := 11) sc_u_law_before.nd rfl (.inl rfl)) wgs_nil)))) (fun _ _ _ _ _ => wts_nil) (fun _ _ _ _ _ => (w_fdiv (w_mul (w_var 10) (w_var 2)) (w_var 11))))
      (wss_consB (ws_set (i := 9) sc_u_law_before.nd rfl (.inl rfl) (w_bi ok_min2 (wa_cons (w_bi ok_max2 (wa_cons (w_sub (w_var 1) (w_var 5)) (wa_cons w_int wa_nil)) (fun t h => pe_callB (call_max2 rfl) (by rfl) T.m_max (by decide +kernel) h)) (wa_cons (w_var 6) wa_nil)) (fun t h => pe_callB (call_min2 rfl) (by rfl) T.m_min (by decide +kernel) h)))
      (wss_consB (ws_set (i := 3) sc_u_law_before.nd rfl (.inl rfl) (w_add (w_var 3) (w_mul (w_fdiv (w_var 9) (w_bi ok_len (wa_cons (w_var 8) wa_nil) (fun t h => pe_callB (call_len_seq.or call_len_str) (by rfl) T.m_len (by decide +kernel) h))) (w_bi ok_sum (wa_cons (w_var 8) wa_nil) (fun t h => pe_callB (cr_sum rfl) (by rfl) T.m_sum (by decide +kernel) h)))))
      (wss_one (ws_set (i := 3) sc_u_law_before.nd rfl (.inl rfl) (w_add (w_var 3) (w_bi ok_sum (wa_cons (w_ne (wn_slice (w_var 8) wo_none (wo_some (w_mod (w_var 9) (w_bi ok_len (wa_cons (w_var 8) wa_nil) (fun t h => pe_callB (call_len_seq.or call_len_str) (by rfl) T.m_len (by decide +kernel) h)))))) wa_nil) (fun t h => pe_callB (cr_sum rfl) (by rfl) T.m_sum (by decide +kernel) h)))))))))
      (wss_one (ws_ret (w_var 3)))))) ?body
  case len =>
    rintro args S R ⟨rfl, ds, R0, rfl, h, q⟩
    exact len_beforeL h
  case body =>
    rintro args S R ⟨rfl, ds, R0, rfl, h, q⟩
    obtain ⟨es, d, g, rfl, hes, hl, hg, hR⟩ := h
    walk_at "n"
    refine ⟨fun i ρ S => ∃ (f : Int) (o1 o2 o3 o4 o5 o6 o7 o8 : Option PV), ρ = [some (.d (.list (es.map entD))), some (.d (.int d)), some (.d (.int g)), some (.d (.int f)), o1, o2, o3, o4, o5, o6, o7, o8] ∧ S = [] ∧ f = before (es.take i) g d, ⟨0, _, _, _, _, _, _, _, _, rfl, rfl, rfl⟩, ?_, ?_⟩
    · rintro i x _ _ hx ⟨f, o1, o2, o3, o4, o5, o6, o7, o8, rfl, rfl, hf⟩
      rw [List.getElem?_map, Option.map_eq_some_iff] at hx
      obtain ⟨e, he, rfl⟩ := hx
      have hm := List.mem_of_getElem? he
      have ok := hes e hm
      have htk : before (es.take (i + 1)) g d = f + bef e g d := by
        rw [hf, List.take_add_one, he]
        simp [before, List.map_append, List.sum_append]
      walk_at "n"
      refine lcb_map (pieceL g) (by rw [List.length_map]; exact Nat.le_trans ok.l4 (by decide)) (fun x hx k hk => ?_) ?_
      · obtain ⟨r, hr, rfl⟩ := List.mem_map.mp hx
        have rok := ok.ams r hr
        walk_at "n"
        refine ⟨mulP (m := 20) (n := 700) (Nat.lt_of_le_of_lt rok.top (by decide)) hg.big, ?_⟩
        refine ⟨⟨rok.ok.1, logP (m := 30) (by have := rok.und; have := rok.ok.1; omega)⟩, ?_⟩
        exact hk
      rw [piecesL_D (hg.dvd e hm)]
      walk_at "n"
      rw [← days, List.length_map, pieces_len]
      obtain ⟨d0, d1⟩ := days_in ok d
      have l1 := ok.l1
      have l4 := ok.l4
      have l0 : (0 : Int) < e.am.length := by omega
      obtain ⟨s1, s2⟩ := sum_small ok hg.big
      have r0 := Int.emod_nonneg (days e d) (Int.ne_of_gt l0)
      have r1 := Int.emod_lt_of_pos (days e d) l0
      have dd : (days e d).natAbs < 2 ^ 100 := Nat.lt_of_le_of_lt (m := 10 ^ 30) (by have := ok.sum; have := ok.f0; omega) (by decide)
      refine ⟨⟨l0, logP (m := 30) (by omega)⟩, ?_⟩
      walk_at "n"
      rw [Pu.intsD_map]
      walk_at "n"
      refine ⟨mulP (Nat.lt_of_le_of_lt (div_le (days e d) l0) dd) s1, ?_⟩
      walk_at "n"
      rw [List.length_map, pieces_len]
      refine ⟨l0, ?_⟩
      walk_at "n"
      rw [cut_to r0 (by rw [List.length_map, pieces_len]; omega), ← List.map_take, Pu.intsD_map]
      walk_at "n"
      exact .inl ⟨_, _, _, _, _, _, _, _, _, rfl, rfl, by rw [htk, bef]; omega⟩
    · rintro _ _ ⟨f, o1, o2, o3, o4, o5, o6, o7, o8, rfl, rfl, hf⟩
      walk_at "n"
      rw [List.length_map, List.take_length] at hf
      rw [hf]
      exact q _ hR _
/-! ### _law_told -/
def spec_told (ds : List PyData) (R : PyData → Prop) : Prop := ∃ (es : List Ent) (u f m g : Int), ds = [.list (es.map entD), .int u, .int f, .int m, .int g] ∧ (∀ e ∈ es, EntOk e) ∧ es.length ≤ 8 ∧ GrOk es g ∧ R (.int (toldBy es g u f (f + m)))
theorem len_told {ds : List PyData} {R : PyData → Prop} (h : spec_told ds R) : (dA ds).length = 5 := by
  obtain ⟨_, _, _, _, _, rfl, _⟩ := h; rfl
theorem ok_u_law_told (T : Top K w mg cC aI dI a_u_law_bag d_u_law_bag a_u_law_take d_u_law_take a_u_law_part d_u_law_part a_u_law_lowest d_u_law_lowest a_u_law_amount d_u_law_amount a_u_law_entry d_u_law_entry a_u_law_entries d_u_law_entries a_u_law_grain d_u_law_grain a_u_law_stretch d_u_law_stretch a_u_law_before d_u_law_before a_u_law_told d_u_law_told a_u_law_statements d_u_law_statements a_u_law_case d_u_law_case a_u_law_days d_u_law_days a_is_integer_kinds d_is_integer_kinds a_is_within d_is_within a_is_day d_is_day a_is_stretch d_is_stretch a_is_integer_ratios d_is_integer_ratios a_common d_common a_is_ratio d_is_ratio a_is_amount d_is_amount a_are_amounts d_are_amounts a_wrong_part d_wrong_part a_check_item d_check_item a_M_numbered d_M_numbered a_M_of_kind d_M_of_kind a_M_add d_M_add a_M_need d_M_need a_M_drop d_M_drop a_u_law_ledger d_u_law_ledger a_lowest d_lowest a_grain_of d_grain_of a_as_ratios d_as_ratios a_meet d_meet a_arc_of d_arc_of a_given_before d_given_before a_units_before d_units_before a_greater_arc d_greater_arc a_lesser_number d_lesser_number a_outside d_outside a_allowed_units d_allowed_units a_left_units d_left_units a_M_entries d_M_entries a_M_statements d_M_statements a_left d_left a_u_law_near d_u_law_near a_is_cut d_is_cut a_check_cut d_check_cut a_check_stretch d_check_stretch a_floor_of d_floor_of a_plus d_plus a_check_day d_check_day a_sum_before d_sum_before a_total_by d_total_by a_told d_told a_parts_of d_parts_of a_numbers d_numbers a_u_law_right d_u_law_right a_law d_law) (G_u_law_before : FnOkG P w K mg base 1 a_u_law_before d_u_law_before ["entries", "day", "grain"] (upF K (pur spec_beforeL))) :
    FnOkG P w K mg base 2 a_u_law_told d_u_law_told ["entries", "unit", "first", "many", "grain"] (upF K (pur spec_told)) := by
  refine okP (k := 1) T.F_u_law_told sc_u_law_told (n := 7) rfl ?len (fun cdv A outer s H E hr hgs => (wss_consB (ws_par (i := 5) (j := 6) rfl sc_u_law_told.nd rfl rfl (by decide) rfl rfl (wa_cons (w_call G_u_law_before hr hgs (by rfl) T.g_u_law_before T.F_u_law_before.kp T.b_u_law_before (wa_cons (w_var 0) (wa_cons (w_var 2) (wa_cons (w_var 4) wa_nil)))) (wa_cons (w_call G_u_law_before hr hgs (by rfl) T.g_u_law_before T.F_u_law_before.kp T.b_u_law_before (wa_cons (w_var 0) (wa_cons (w_add (w_var 2) (w_var 3)) (wa_cons (w_var 4) wa_nil)))) wa_nil)) (by rfl))
      (wss_one (ws_ret (w_sub (w_fdiv (w_add (w_var 6) (w_var 1)) (w_var 4)) (w_fdiv (w_add (w_var 5) (w_var 1)) (w_var 4))))))) ?body
  case len =>
    rintro args S R ⟨rfl, ds, R0, rfl, h, q⟩
    exact len_told h
  case body =>
    rintro args S R ⟨rfl, ds, R0, rfl, h, q⟩
    obtain ⟨es, u, f, m, g, rfl, hes, hl, hg, hR⟩ := h
    walk_at "n"
    refine ⟨es, f, g, rfl, hes, hl, hg, ?_⟩
    walk_at "n"
    refine ⟨es, f + m, g, rfl, hes, hl, hg, ?_⟩
    walk_at "n"
    have lg := logP (lt_up hg.big (by decide : 700 ≤ 8000))
    refine ⟨⟨hg.pos, lg⟩, ?_⟩
    refine ⟨⟨hg.pos, lg⟩, ?_⟩
    walk_at "n"
    exact q _ hR _
/-! ### _law_statements -/
def spec_statements (xs ds : List PyData) (R : PyData → List PyData → Prop) : Prop := ∃ (a b l n : Int) (es : List Ent), xs = [.int a, .int b] ∧ ds = [.list (es.map entD), .int l, .int n] ∧ (∀ e ∈ es, EntOk e) ∧ es.length ≤ 8 ∧ BagOk a b ∧ 0 ≤ l ∧ l.natAbs < 2 ^ 60 ∧ 0 ≤ n ∧ n ≤ 1000 ∧
  ∀ (ss : List Sta) (a' b' : Int), (∀ s ∈ ss, StaOk s) → (∀ s ∈ ss, s.first + s.many ≤ l + 1) → ss.length ≤ n.toNat → BagOk a' b' → R (.list (ss.map staD)) [.int a', .int b']
theorem len_statements {xs ds : List PyData} {R : PyData → List PyData → Prop} (h : spec_statements xs ds R) : (PV.cel 0 :: dA ds).length = 4 := by
  obtain ⟨_, _, _, _, _, _, rfl, _⟩ := h; rfl
theorem told_big {es : List Ent} {g u i j : Int} (h : ∀ e ∈ es, EntOk e) (hl : es.length ≤ 8) (hg : GrOk es g) (u0 : 0 ≤ u) (u1 : u < g) : (toldBy es g u i j).natAbs < 2 ^ 920 := by
  have b1 := before_big h hl hg.big i
  have b2 := before_big h hl hg.big j
  have bu : u.natAbs < 2 ^ 700 := by have := hg.big; omega
  have c1 := div_le (before es g j + u) hg.pos
  have c2 := div_le (before es g i + u) hg.pos
  have d1 : (before es g j + u).natAbs < 2 ^ 911 := add_lt (m := 910) b2 (lt_up bu (by decide)) (by decide)
  have d2 : (before es g i + u).natAbs < 2 ^ 911 := add_lt (m := 910) b1 (lt_up bu (by decide)) (by decide)
  exact sub_lt (m := 911) (Nat.lt_of_le_of_lt c1 d1) (Nat.lt_of_le_of_lt c2 d2) (by decide)
theorem ok_u_law_statements (T : Top K w mg cC aI dI a_u_law_bag d_u_law_bag a_u_law_take d_u_law_take a_u_law_part d_u_law_part a_u_law_lowest d_u_law_lowest a_u_law_amount d_u_law_amount a_u_law_entry d_u_law_entry a_u_law_entries d_u_law_entries a_u_law_grain d_u_law_grain a_u_law_stretch d_u_law_stretch a_u_law_before d_u_law_before a_u_law_told d_u_law_told a_u_law_statements d_u_law_statements a_u_law_case d_u_law_case a_u_law_days d_u_law_days a_is_integer_kinds d_is_integer_kinds a_is_within d_is_within a_is_day d_is_day a_is_stretch d_is_stretch a_is_integer_ratios d_is_integer_ratios a_common d_common a_is_ratio d_is_ratio a_is_amount d_is_amount a_are_amounts d_are_amounts a_wrong_part d_wrong_part a_check_item d_check_item a_M_numbered d_M_numbered a_M_of_kind d_M_of_kind a_M_add d_M_add a_M_need d_M_need a_M_drop d_M_drop a_u_law_ledger d_u_law_ledger a_lowest d_lowest a_grain_of d_grain_of a_as_ratios d_as_ratios a_meet d_meet a_arc_of d_arc_of a_given_before d_given_before a_units_before d_units_before a_greater_arc d_greater_arc a_lesser_number d_lesser_number a_outside d_outside a_allowed_units d_allowed_units a_left_units d_left_units a_M_entries d_M_entries a_M_statements d_M_statements a_left d_left a_u_law_near d_u_law_near a_is_cut d_is_cut a_check_cut d_check_cut a_check_stretch d_check_stretch a_floor_of d_floor_of a_plus d_plus a_check_day d_check_day a_sum_before d_sum_before a_total_by d_total_by a_told d_told a_parts_of d_parts_of a_numbers d_numbers a_u_law_right d_u_law_right a_law d_law) (G_u_law_grain : FnOkG P w K mg base 2 a_u_law_grain d_u_law_grain ["entries"] (upF K (pur spec_grainL))) (G_u_law_take : FnOkG P w K mg base 1 a_u_law_take d_u_law_take ["bag", "size"] (upF K (mutF spec_take))) (G_u_law_stretch : FnOkG P w K mg base 2 a_u_law_stretch d_u_law_stretch ["bag", "last"] (upF K (mutF spec_stretch))) (G_u_law_told : FnOkG P w K mg base 2 a_u_law_told d_u_law_told ["entries", "unit", "first", "many", "grain"] (upF K (pur spec_told))) :
    FnOkG P w K mg base 3 a_u_law_statements d_u_law_statements ["bag", "entries", "last", "most"] (upF K (mutF spec_statements)) := by
  refine okP (k := 2) T.F_u_law_statements sc_u_law_statements (n := 12) rfl ?len (fun cdv A outer s H E hr hgs => (wss_consB (ws_par (i := 4) (j := 5) rfl sc_u_law_statements.nd rfl rfl (by decide) rfl rfl (wa_cons (w_call G_u_law_grain hr hgs (by rfl) T.g_u_law_grain T.F_u_law_grain.kp T.b_u_law_grain (wa_cons (w_var 1) wa_nil)) (wa_cons (w_cell (wn_list wa_nil)) wa_nil)) (by rfl))
      (wss_consB (ws_par (i := 6) (j := 7) rfl sc_u_law_statements.nd rfl rfl (by decide) rfl rfl (wa_cons (w_callM G_u_law_take (hr.mono (by decide)) hgs (by rfl) T.g_u_law_take T.F_u_law_take.kp T.b_u_law_take (wa_cons (w_var 0) (wa_cons (w_var 4) wa_nil))) (wa_cons (w_eq hr (w_callM G_u_law_take (hr.mono (by decide)) hgs (by rfl) T.g_u_law_take T.F_u_law_take.kp T.b_u_law_take (wa_cons (w_var 0) (wa_cons w_int wa_nil))) w_int) wa_nil)) (by rfl))
      (wss_consB (ws_for PassesOwn.never rfl (wi_range1 (by rfl) T.m_range (wa_cons (w_callM G_u_law_take (hr.mono (by decide)) hgs (by rfl) T.g_u_law_take T.F_u_law_take.kp T.b_u_law_take (wa_cons (w_var 0) (wa_cons (w_add (w_var 3) w_int) wa_nil))) wa_nil)) (wg_name (i := 8) sc_u_law_statements.nd rfl (.inl rfl)) (wss_consB (ws_asg (w_callM G_u_law_stretch hr hgs (by rfl) T.g_u_law_stretch T.F_u_law_stretch.kp T.b_u_law_stretch (wa_cons (w_var 0) (wa_cons (w_var 2) wa_nil))) (wg_tup (n := 2) rfl (wgs_cons (wg_name (i := 9) sc_u_law_statements.nd rfl (.inl rfl)) (wgs_cons (wg_name (i := 10) sc_u_law_statements.nd rfl (.inl rfl)) wgs_nil))))
      (wss_consB (ws_set (i := 11) sc_u_law_statements.nd rfl (.inl rfl) (w_call G_u_law_told hr hgs (by rfl) T.g_u_law_told T.F_u_law_told.kp T.b_u_law_told (wa_cons (w_var 1) (wa_cons (w_var 6) (wa_cons (w_var 9) (wa_cons (w_var 10) (wa_cons (w_var 4) wa_nil)))))))
      (wss_consB (ws_ifJ (WW.wt (ww_and (w_val (w_var 7)) (ww_and1 (wt_eq hr (w_callM G_u_law_take (hr.mono (by decide)) hgs (by rfl) T.g_u_law_take T.F_u_law_take.kp T.b_u_law_take (wa_cons (w_var 0) (wa_cons w_int wa_nil))) w_int)))) (wss_one (ws_set (i := 11) sc_u_law_statements.nd rfl (.inl rfl) (w_sub (w_add (w_var 11) (w_callM G_u_law_take (hr.mono (by decide)) hgs (by rfl) T.g_u_law_take T.F_u_law_take.kp T.b_u_law_take (wa_cons (w_var 0) (wa_cons w_int wa_nil)))) w_int))) wss_nil)
      (wss_one (ws_expr (w_append (i := 5) (w_tup (wa_cons w_str (wa_cons (w_var 9) (wa_cons (w_var 10) (wa_cons (w_var 11) wa_nil))))) (fun t h => pe_bm PySem.F.plainAttrs_list PySem.F.slot_list_append PySem.F.type_list_append mt_append (pv 5) (pa_cons h pa_nil)))))))))
      (wss_one (ws_ret (w_fz (w_var 5)))))))) ?body
  case len =>
    rintro args S R ⟨xs, ds, R0, rfl, rfl, h, q⟩
    exact len_statements h
  case body =>
    rintro args S R ⟨xs, ds, R0, rfl, rfl, h, q⟩
    obtain ⟨a, b, l, n, es, rfl, rfl, hes, hle, ok, l0, bl, n0, n1, hR⟩ := h
    walk_at "n"
    refine ⟨es, rfl, hes, hle, ?_⟩
    walk_at "n"
    have hg := grain_ok hes hle
    generalize grain es = g at hg ⊢
    refine ⟨a, b, g, rfl, rfl, ok, hg.pos, logP (lt_up hg.big (by decide : 700 ≤ 8000)), fun u a1 b1 u0 u1 ok1 => ?_⟩
    refine ⟨a1, b1, 3, rfl, rfl, ok1, by decide, by decide, fun w a2 b2 w0 w1 ok2 => ?_⟩
    walk_at "n"
    generalize decide (w = 0) = wr
    refine ⟨a2, b2, n + 1, rfl, rfl, ok2, by omega, logP (m := 62) (by omega), fun c a3 b3 c0 c1 ok3 => ?_⟩
    walk_at "n"
    refine ⟨⟨by omega, by omega⟩, ?_⟩
    refine ⟨fun i ρ S => ∃ (a b : Int) (ss : List Sta) (o1 o2 o3 o4 : Option PV), ρ = [some (.cel 0), some (.d (.list (es.map entD))), some (.d (.int l)), some (.d (.int n)), some (.d (.int g)), some (.cel 1), some (.d (.int u)), some (.d (.bool wr)), o1, o2, o3, o4] ∧ S = [.lst [.int a, .int b], .lst (ss.map staD)] ∧ BagOk a b ∧ (∀ s ∈ ss, StaOk s) ∧ (∀ s ∈ ss, s.first + s.many ≤ l + 1) ∧ ss.length = i, ⟨a3, b3, [], _, _, _, _, rfl, rfl, ok3, fun d hd => (by cases hd), fun d hd => (by cases hd), rfl⟩, ?_, ?_⟩
    · rintro i d _ _ hd ⟨a, b, ss, o1, o2, o3, o4, rfl, rfl, ok, h1, h2, hl⟩
      obtain ⟨rfl, hi⟩ := rngD_at hd
      walk_at "n"
      refine ⟨a, b, l, rfl, rfl, ok, l0, bl, fun f m a' b' f0 m1 fm ok' => ?_⟩
      walk_at "n"
      refine ⟨es, u, f, m, g, rfl, hes, hle, hg, ?_⟩
      walk_at "n"
      have tb := told_big (i := f) (j := f + m) hes hle hg u0 u1
      generalize toldBy es g u f (f + m) = x at tb ⊢
      refine j_ifA (fun ρ' S' => ∃ x' a b : Int, ρ' = [some (.cel 0), some (.d (.list (es.map entD))), some (.d (.int l)), some (.d (.int n)), some (.d (.int g)), some (.cel 1), some (.d (.int u)), some (.d (.bool wr)), some (.d (.int (0 + (i : Nat)))), some (.d (.int f)), some (.d (.int m)), some (.d (.int x'))] ∧ S' = [.lst [.int a, .int b], .lst (ss.map staD)] ∧ BagOk a b ∧ x'.natAbs < 2 ^ 930) ?_ ?_
      · intro E' hE
        have bx : x.natAbs < 2 ^ 930 := lt_up tb (by decide)
        cases wr with
        | false =>
          walk_at "n"
          exact hE _ _ ⟨x, a', b', rfl, rfl, ok', bx⟩
        | true =>
          walk_at "n"
          refine ⟨a', b', 3, rfl, rfl, ok', by decide, by decide, fun y a5 b5 y0 y1 ok5 => ?_⟩
          walk_at "n"
          refine brD (fun _ => ?_) (fun _ => ?_)
          · walk_at "n"
            refine ⟨a5, b5, 3, rfl, rfl, ok5, by decide, by decide, fun z a6 b6 z0 z1 ok6 => ?_⟩
            walk_at "n"
            refine hE _ _ ⟨_, a6, b6, rfl, rfl, ok6, ?_⟩
            omega
          · walk_at "n"
            exact hE _ _ ⟨x, a5, b5, rfl, rfl, ok5, bx⟩
      · rintro _ _ ⟨x', a, b, rfl, rfl, ok, bx⟩
        walk_at "n"
        refine ⟨by rw [List.length_map]; exact Nat.lt_of_le_of_lt (show _ ≤ 1000 by omega) (by decide), ?_⟩
        walk_at "n"
        refine .inl ⟨a, b, ss ++ [⟨f, m, x'⟩], _, _, _, _, rfl, by rw [List.map_append, List.map_cons, List.map_nil, ← snocD_eq], ok, fun s hs => ?_, fun s hs => ?_, by rw [List.length_append, hl]; rfl⟩
        · rcases List.mem_append.mp hs with hs | hs
          · exact h1 s hs
          · rw [List.mem_singleton] at hs; subst hs
            refine ⟨f0, m1, ?_, bx⟩
            show f + m ≤ 10 ^ 30
            have : (2 : Int) ^ 60 + 1 ≤ 10 ^ 30 := by decide
            omega
        · rcases List.mem_append.mp hs with hs | hs
          · exact h2 s hs
          · rw [List.mem_singleton] at hs; subst hs; exact fm
    · rintro _ _ ⟨a, b, ss, o1, o2, o3, o4, rfl, rfl, ok, h1, h2, hl⟩
      rw [rngD_len] at hl
      walk_at "n"
      exact q _ _ (hR ss _ _ h1 h2 (by omega) ok) _
/-! ### _law_case -/
def spec_case (xs ds : List PyData) (R : PyData → List PyData → Prop) : Prop := ∃ a b n : Int, xs = [.int a, .int b] ∧ ds = [.int n] ∧ BagOk a b ∧ 0 ≤ n ∧ n ≤ 1000 ∧
  ∀ (es : List Ent) (ss : List Sta) (l a' b' : Int), 2 ≤ l → l ≤ 13 → CaseOk es ss l 4 n.toNat → BagOk a' b' → R (.tuple [.list (es.map entD), .list (ss.map staD), .int l, .int (grain es)]) [.int a', .int b']
theorem len_case {xs ds : List PyData} {R : PyData → List PyData → Prop} (h : spec_case xs ds R) : (PV.cel 0 :: dA ds).length = 2 := by
  obtain ⟨_, _, _, _, rfl, _⟩ := h; rfl
theorem ok_u_law_case (T : Top K w mg cC aI dI a_u_law_bag d_u_law_bag a_u_law_take d_u_law_take a_u_law_part d_u_law_part a_u_law_lowest d_u_law_lowest a_u_law_amount d_u_law_amount a_u_law_entry d_u_law_entry a_u_law_entries d_u_law_entries a_u_law_grain d_u_law_grain a_u_law_stretch d_u_law_stretch a_u_law_before d_u_law_before a_u_law_told d_u_law_told a_u_law_statements d_u_law_statements a_u_law_case d_u_law_case a_u_law_days d_u_law_days a_is_integer_kinds d_is_integer_kinds a_is_within d_is_within a_is_day d_is_day a_is_stretch d_is_stretch a_is_integer_ratios d_is_integer_ratios a_common d_common a_is_ratio d_is_ratio a_is_amount d_is_amount a_are_amounts d_are_amounts a_wrong_part d_wrong_part a_check_item d_check_item a_M_numbered d_M_numbered a_M_of_kind d_M_of_kind a_M_add d_M_add a_M_need d_M_need a_M_drop d_M_drop a_u_law_ledger d_u_law_ledger a_lowest d_lowest a_grain_of d_grain_of a_as_ratios d_as_ratios a_meet d_meet a_arc_of d_arc_of a_given_before d_given_before a_units_before d_units_before a_greater_arc d_greater_arc a_lesser_number d_lesser_number a_outside d_outside a_allowed_units d_allowed_units a_left_units d_left_units a_M_entries d_M_entries a_M_statements d_M_statements a_left d_left a_u_law_near d_u_law_near a_is_cut d_is_cut a_check_cut d_check_cut a_check_stretch d_check_stretch a_floor_of d_floor_of a_plus d_plus a_check_day d_check_day a_sum_before d_sum_before a_total_by d_total_by a_told d_told a_parts_of d_parts_of a_numbers d_numbers a_u_law_right d_u_law_right a_law d_law) (G_u_law_entries : FnOkG P w K mg base 5 a_u_law_entries d_u_law_entries ["bag", "last", "most"] (upF K (mutN spec_entries))) (G_u_law_statements : FnOkG P w K mg base 3 a_u_law_statements d_u_law_statements ["bag", "entries", "last", "most"] (upF K (mutF spec_statements))) (G_u_law_take : FnOkG P w K mg base 1 a_u_law_take d_u_law_take ["bag", "size"] (upF K (mutF spec_take))) (G_u_law_grain : FnOkG P w K mg base 2 a_u_law_grain d_u_law_grain ["entries"] (upF K (pur spec_grainL))) (G_u_law_lowest : FnOkG P w K mg base 2 a_u_law_lowest d_u_law_lowest ["top", "under"] (upF K (pur spec_low))) :
    FnOkG P w K mg base 6 a_u_law_case d_u_law_case ["bag", "most"] (upF K (mutF spec_case)) := by
  refine okP (k := 5) T.F_u_law_case sc_u_law_case (n := 6) rfl ?len (fun cdv A outer s H E hr hgs => (wss_consB (ws_set (i := 2) sc_u_law_case.nd rfl (.inl rfl) (w_add w_int (w_callM G_u_law_take (hr.mono (by decide)) hgs (by rfl) T.g_u_law_take T.F_u_law_take.kp T.b_u_law_take (wa_cons (w_var 0) (wa_cons w_int wa_nil)))))
      (wss_consB (ws_setN (i := 3) sc_u_law_case.nd rfl (.inl rfl) (w_callMN G_u_law_entries hr hgs (by rfl) T.g_u_law_entries T.F_u_law_entries.kp T.b_u_law_entries (wa_cons (w_var 0) (wa_cons (w_var 2) (wa_cons w_int wa_nil)))))
      (wss_consB (ws_ifJ (wt_eq hr (w_callM G_u_law_take (hr.mono (by decide)) hgs (by rfl) T.g_u_law_take T.F_u_law_take.kp T.b_u_law_take (wa_cons (w_var 0) (wa_cons w_int wa_nil))) w_int) (wss_consB (ws_set (i := 4) sc_u_law_case.nd rfl (.inl rfl) (w_ixJ (w_list (wa_cons w_int (wa_cons (w_pow w_int w_int) (wa_cons w_int wa_nil)))) (w_callM G_u_law_take (hr.mono (by decide)) hgs (by rfl) T.g_u_law_take T.F_u_law_take.kp T.b_u_law_take (wa_cons (w_var 0) (wa_cons w_int wa_nil))) (fun _ _ => rfl)))
      (wss_one (ws_expr (w_append (i := 3) (w_tup (wa_cons w_str (wa_cons (w_callM G_u_law_take (hr.mono (by decide)) hgs (by rfl) T.g_u_law_take T.F_u_law_take.kp T.b_u_law_take (wa_cons (w_var 0) (wa_cons (w_var 2) wa_nil))) (wa_cons w_int (wa_cons (w_tup (wa_cons (w_call G_u_law_lowest (hr.mono (by decide)) hgs (by rfl) T.g_u_law_lowest T.F_u_law_lowest.kp T.b_u_law_lowest (wa_cons (w_sub (w_callM G_u_law_take (hr.mono (by decide)) hgs (by rfl) T.g_u_law_take T.F_u_law_take.kp T.b_u_law_take (wa_cons (w_var 0) (wa_cons (w_mul w_int (w_var 4)) wa_nil))) (w_var 4)) (wa_cons (w_var 4) wa_nil))) wa_nil)) wa_nil))))) (fun t h => pe_bm PySem.F.plainAttrs_list PySem.F.slot_list_append PySem.F.type_list_append mt_append (pv 3) (pa_cons h pa_nil)))))) wss_nil)
      (wss_consB (ws_set (i := 5) sc_u_law_case.nd rfl (.inl rfl) (w_callM G_u_law_statements (hr.mono (by decide)) hgs (by rfl) T.g_u_law_statements T.F_u_law_statements.kp T.b_u_law_statements (wa_cons (w_var 0) (wa_cons (w_fz (w_var 3)) (wa_cons (w_var 2) (wa_cons (w_var 1) wa_nil))))))
      (wss_one (ws_ret (w_tup (wa_cons (w_fz (w_var 3)) (wa_cons (w_var 5) (wa_cons (w_var 2) (wa_cons (w_call G_u_law_grain (hr.mono (by decide)) hgs (by rfl) T.g_u_law_grain T.F_u_law_grain.kp T.b_u_law_grain (wa_cons (w_fz (w_var 3)) wa_nil)) wa_nil)))))))))))) ?body
  case len =>
    rintro args S R ⟨xs, ds, R0, rfl, rfl, h, q⟩
    exact len_case h
  case body =>
    rintro args S R ⟨xs, ds, R0, rfl, rfl, h, q⟩
    obtain ⟨a, b, n, rfl, rfl, ok, n0, n1, hR⟩ := h
    walk_at "n"
    refine ⟨a, b, 12, rfl, rfl, ok, by decide, by decide, fun l0 a1 b1 k0 k1 ok1 => ?_⟩
    walk_at "n"
    have hl : 2 ≤ 2 + l0 ∧ 2 + l0 ≤ 13 := by omega
    generalize 2 + l0 = l at hl ⊢
    obtain ⟨l2, l13⟩ := hl
    refine ⟨a1, b1, l, 3, rfl, rfl, ok1, by omega, by omega, by decide, by decide, fun es a2 b2 h1 h2 h3 ok2 => ?_⟩
    walk_at "n"
    refine j_ifA (fun ρ' S' => ∃ (es : List Ent) (a b : Int) (o : Option PV), ρ' = [some (.cel 0), some (.d (.int n)), some (.d (.int l)), some (.cel 1), o, none] ∧ S' = [.lst [.int a, .int b], .lst (es.map entD)] ∧ BagOk a b ∧ (∀ e ∈ es, EntOk e) ∧ (∀ e ∈ es, e.first + e.many ≤ l + 1) ∧ es.length ≤ 4) ?_ ?_
    · intro E' hE
      walk_at "n"
      refine ⟨a2, b2, 4, rfl, rfl, ok2, by decide, by decide, fun y a3 b3 y0 y1 ok3 => ?_⟩
      walk_at "n"
      refine brD (fun _ => ?_) (fun _ => ?_)
      · walk_at "n"
        refine ⟨by decide, ?_⟩
        walk_at "n"
        refine ⟨a3, b3, 3, rfl, rfl, ok3, by decide, by decide, fun i a4 b4 i0 i1 ok4 => ?_⟩
        have hx : ∃ u : Int, ixD [.int 999983, .int (10 ^ Int.toNat 6), .int 720720] i = some (.int u) ∧ 1 ≤ u ∧ u ≤ 10 ^ 6 := by
          have : i = 0 ∨ i = 1 ∨ i = 2 := by omega
          rcases this with rfl | rfl | rfl <;> exact ⟨_, rfl, by decide, by decide⟩
        obtain ⟨u, eu, u1, u2⟩ := hx
        refine ix_ok eu ?_
        walk_at "n"
        refine ⟨a4, b4, l, rfl, rfl, ok4, by omega, logP (m := 62) (by omega), fun f a5 b5 f0 f1 ok5 => ?_⟩
        walk_at "n"
        have bu : u.natAbs < 2 ^ 20 := Nat.lt_of_le_of_lt (m := 10 ^ 6) (by omega) (by decide)
        refine ⟨mulP (m := 4) (by decide) bu, ?_⟩
        walk_at "n"
        refine ⟨a5, b5, 2 * u, rfl, rfl, ok5, by omega, logP (m := 62) (by omega), fun x a6 b6 x0 x1 ok6 => ?_⟩
        walk_at "n"
        refine ⟨x - u, u, rfl, by omega, Nat.lt_of_lt_of_le bu (Nat.pow_le_pow_right (by decide) (by decide)), ?_⟩
        obtain ⟨r, er, ra⟩ := low_am (t := x - u) (u := u) (by omega) (by omega) u2
        rw [er]
        walk_at "n"
        have h3' : Int.toNat 3 = 3 := rfl
        refine ⟨by rw [List.length_map]; exact Nat.lt_of_le_of_lt (show _ ≤ 3 by omega) (by decide), ?_⟩
        walk_at "n"
        refine hE _ _ ⟨es ++ [⟨f, 1, [r]⟩], a6, b6, _, rfl, ?_, ok6, fun e he => ?_, fun e he => ?_, by rw [List.length_append]; show _ + 1 ≤ 4; omega⟩
        · rw [List.map_append, List.map_cons, List.map_nil, ← snocD_eq]; rfl
        · rcases List.mem_append.mp he with he | he
          · exact h1 e he
          · rw [List.mem_singleton] at he; subst he
            refine ⟨f0, by show (1 : Int) ≤ 1; decide, ?_, by show 1 ≤ 1; decide, by show 1 ≤ 4; decide, fun r' hr' => ?_⟩
            · show f + 1 ≤ 10 ^ 30
              omega
            · have : r' ∈ [r] := hr'
              rw [List.mem_singleton] at this; subst this; exact ra
        · rcases List.mem_append.mp he with he | he
          · exact h2 e he
          · rw [List.mem_singleton] at he; subst he
            show f + 1 ≤ l + 1
            omega
      · walk_at "n"
        exact hE _ _ ⟨es, a3, b3, _, rfl, rfl, ok3, h1, h2, by have : Int.toNat 3 = 3 := rfl; omega⟩
    · rintro _ _ ⟨es, a, b, o, rfl, rfl, ok, h1, h2, h3⟩
      walk_at "n"
      refine ⟨a, b, l, n, es, rfl, rfl, h1, by omega, ok, by omega, by omega, n0, n1, fun ss a' b' g1 g2 g3 ok' => ?_⟩
      walk_at "n"
      refine ⟨es, rfl, h1, by omega, ?_⟩
      walk_at "n"
      exact q _ _ (hR es ss l _ _ l2 l13 ⟨h1, h2, h3, g1, g2, g3⟩ ok') _
/-! ### sets of units -/
def mx (a b : Int) : Int := if b > a then b else a
def mn (a b : Int) : Int := if b < a then b else a
def Norm : Int → Int → List (Int × Int) → Prop
  | _, _, [] => True
  | lo, hi, s :: r => lo ≤ s.1 ∧ s.1 < s.2 ∧ s.2 ≤ hi ∧ Norm (s.2 + 1) hi r
def memS (sp : List (Int × Int)) (u : Int) : Prop := ∃ s ∈ sp, s.1 ≤ u ∧ u < s.2
theorem memS_nil {u : Int} : ¬ memS [] u := fun ⟨_, h, _⟩ => by cases h
theorem memS_cons {s : Int × Int} {r : List (Int × Int)} {u : Int} : memS (s :: r) u ↔ (s.1 ≤ u ∧ u < s.2) ∨ memS r u := by
  constructor
  · rintro ⟨t, ht, h⟩
    rcases List.mem_cons.mp ht with rfl | ht
    · exact .inl h
    · exact .inr ⟨t, ht, h⟩
  · rintro (h | ⟨t, ht, h⟩)
    · exact ⟨s, by simp, h⟩
    · exact ⟨t, by simp [ht], h⟩
theorem memS_app {x y : List (Int × Int)} {u : Int} : memS (x ++ y) u ↔ memS x u ∨ memS y u := by
  induction x with
  | nil => simp [memS_nil]
  | cons s x ih => rw [List.cons_append, memS_cons, memS_cons, ih]; exact or_assoc.symm
theorem Norm.mono : ∀ {sp : List (Int × Int)} {lo hi lo' hi' : Int}, Norm lo hi sp → lo' ≤ lo → hi ≤ hi' → Norm lo' hi' sp
  | [], _, _, _, _, _, _, _ => trivial
  | s :: r, lo, hi, lo', hi', ⟨a, b, c, d⟩, h1, h2 => ⟨by omega, b, by omega, Norm.mono d (Int.le_refl _) h2⟩
theorem Norm.bnd : ∀ {sp : List (Int × Int)} {lo hi u : Int}, Norm lo hi sp → memS sp u → lo ≤ u ∧ u < hi
  | [], _, _, _, _, h => (memS_nil h).elim
  | s :: r, lo, hi, u, ⟨a, b, c, d⟩, h => by
    rcases memS_cons.mp h with h | h
    · omega
    · have := Norm.bnd d h; omega
theorem Norm.app {x y : List (Int × Int)} {lo b hi : Int} (h1 : Norm lo b x) (h2 : Norm (b + 1) hi y) (hb : b ≤ hi) (hl : lo ≤ b + 1) : Norm lo hi (x ++ y) := by
  induction x generalizing lo with
  | nil => exact h2.mono hl (Int.le_refl _)
  | cons s r ih =>
    obtain ⟨a1, a2, a3, a4⟩ := h1
    exact ⟨a1, a2, by omega, ih a4 (by omega)⟩
/-- one form for one set -/
theorem Norm.uniq : ∀ {x y : List (Int × Int)} {lo lo' hi : Int}, Norm lo hi x → Norm lo' hi y → (∀ u, memS x u ↔ memS y u) → x = y
  | [], [], _, _, _, _, _, _ => rfl
  | [], t :: y, _, _, _, _, ⟨_, b, _, _⟩, e => by
    have := (e t.1).mpr (memS_cons.mpr (.inl ⟨Int.le_refl _, b⟩))
    exact (memS_nil this).elim
  | s :: x, [], _, _, _, ⟨_, b, _, _⟩, _, e => by
    have := (e s.1).mp (memS_cons.mpr (.inl ⟨Int.le_refl _, b⟩))
    exact (memS_nil this).elim
  | s :: x, t :: y, lo, lo', hi, ⟨a1, a2, a3, a4⟩, ⟨b1, b2, b3, b4⟩, e => by
    have bx : ∀ u, memS x u → s.2 + 1 ≤ u := fun u h => (a4.bnd h).1
    have bt : ∀ u, memS y u → t.2 + 1 ≤ u := fun u h => (b4.bnd h).1
    have e1 : s.1 = t.1 := by
      have h1 := (e s.1).mp (memS_cons.mpr (.inl ⟨Int.le_refl _, a2⟩))
      have h2 := (e t.1).mpr (memS_cons.mpr (.inl ⟨Int.le_refl _, b2⟩))
      rcases memS_cons.mp h1 with h1 | h1 <;> rcases memS_cons.mp h2 with h2 | h2
      · omega
      · have := bx _ h2; omega
      · have := bt _ h1; omega
      · have := bx _ h2; have := bt _ h1; omega
    have e2 : s.2 = t.2 := by
      have k1 : ¬ memS (s :: x) s.2 := fun h => by
        rcases memS_cons.mp h with h | h
        · omega
        · have := bx _ h; omega
      have k2 : ¬ memS (t :: y) t.2 := fun h => by
        rcases memS_cons.mp h with h | h
        · omega
        · have := bt _ h; omega
      rcases Int.lt_trichotomy s.2 t.2 with h | h | h
      · exact absurd ((e s.2).mpr (memS_cons.mpr (.inl ⟨by omega, h⟩))) k1
      · exact h
      · exact absurd ((e t.2).mp (memS_cons.mpr (.inl ⟨by omega, h⟩))) k2
    have es : s = t := Prod.ext e1 e2
    subst es
    have : x = y := Norm.uniq a4 b4 fun u => by
      have := e u
      rw [memS_cons, memS_cons] at this
      constructor
      · intro h
        have l := bx u h
        rcases this.mp (.inr h) with z | z
        · omega
        · exact z
      · intro h
        have l := bt u h
        rcases this.mpr (.inr h) with z | z
        · omega
        · exact z
    rw [this]

theorem Norm.len_le : ∀ {sp : List (Int × Int)} {lo hi : Int}, Norm lo hi sp → ∀ s ∈ sp, lo ≤ s.1 ∧ s.1 < s.2 ∧ s.2 ≤ hi
  | [], _, _, _, _, h => by cases h
  | t :: r, lo, hi, ⟨a, b, c, d⟩, s, h => by
    rcases List.mem_cons.mp h with rfl | h
    · exact ⟨a, b, c⟩
    · have := Norm.len_le d s h; omega
theorem Norm.snoc : ∀ {x : List (Int × Int)} {lo hi : Int} {t : Int × Int}, Norm lo hi (x ++ [t]) → lo ≤ t.1 ∧ t.1 < t.2 ∧ t.2 ≤ hi ∧ Norm lo (t.1 - 1) x
  | [], _, _, _, ⟨a, b, c, _⟩ => ⟨a, b, c, trivial⟩
  | s :: x, lo, hi, t, ⟨a, b, c, d⟩ => by
    obtain ⟨h1, h2, h3, h4⟩ := Norm.snoc d
    exact ⟨by omega, h2, h3, a, b, by omega, h4⟩
theorem Norm.put {x : List (Int × Int)} {lo hi : Int} {t : Int × Int} (h : Norm lo (t.1 - 1) x) (h1 : lo ≤ t.1) (h2 : t.1 < t.2) (h3 : t.2 ≤ hi) : Norm lo hi (x ++ [t]) :=
  Norm.app (b := t.1 - 1) h ⟨by omega, h2, h3, trivial⟩ (by omega) (by omega)
/-- spans one behind the other, which may touch -/
def Rows : Int → Int → List (Int × Int) → Prop
  | _, _, [] => True
  | lo, hi, s :: r => lo ≤ s.1 ∧ s.1 < s.2 ∧ s.2 ≤ hi ∧ Rows s.2 hi r
/-- one span more, joined to the last one if they touch -/
def addS (x : List (Int × Int)) (s : Int × Int) : List (Int × Int) := match x.getLast? with
  | some t => if t.2 = s.1 then x.dropLast ++ [(t.1, s.2)] else x ++ [s]
  | none => [s]
def made (x : List (Int × Int)) : List (Int × Int) := x.foldl addS []
theorem addS_nil (s : Int × Int) : addS [] s = [s] := rfl
theorem addS_yes (x : List (Int × Int)) {t s : Int × Int} (h : t.2 = s.1) : addS (x ++ [t]) s = x ++ [(t.1, s.2)] := by
  unfold addS; rw [List.getLast?_concat]; simp only; rw [if_pos h, List.dropLast_concat]
theorem addS_no (x : List (Int × Int)) {t s : Int × Int} (h : ¬ t.2 = s.1) : addS (x ++ [t]) s = x ++ [t] ++ [s] := by
  unfold addS; rw [List.getLast?_concat]; simp only; rw [if_neg h]
theorem snoc_cases (x : List (Int × Int)) : x = [] ∨ ∃ y t, x = y ++ [t] := by
  rcases List.eq_nil_or_concat x with h | ⟨y, t, h⟩
  · exact .inl h
  · exact .inr ⟨y, t, by rw [h, List.concat_eq_append]⟩
theorem addS_ok {x : List (Int × Int)} {lo b : Int} {s : Int × Int} (h : Norm lo b x) (h1 : b ≤ s.1) (h0 : lo ≤ s.1) (h2 : s.1 < s.2) :
    Norm lo s.2 (addS x s) ∧ (∀ u, memS (addS x s) u ↔ memS x u ∨ (s.1 ≤ u ∧ u < s.2)) ∧ (addS x s).length ≤ x.length + 1 := by
  rcases snoc_cases x with rfl | ⟨y, t, rfl⟩
  · rw [addS_nil]
    exact ⟨⟨h0, h2, Int.le_refl _, trivial⟩, fun u => by rw [memS_cons]; exact Or.comm, by simp⟩
  · obtain ⟨a, c, d, e⟩ := h.snoc
    by_cases z : t.2 = s.1
    · rw [addS_yes y z]
      refine ⟨Norm.put (t := (t.1, s.2)) e a (by show t.1 < s.2; omega) (Int.le_refl _), fun u => ?_, by simp⟩
      rw [memS_app, memS_app, memS_cons, memS_cons]
      have n1 := @memS_nil u
      constructor
      · rintro (h | h | h)
        · exact .inl (.inl h)
        · simp only at h
          by_cases w : u < t.2
          · exact .inl (.inr (.inl ⟨h.1, w⟩))
          · exact .inr ⟨by omega, h.2⟩
        · exact (n1 h).elim
      · rintro ((h | h | h) | h)
        · exact .inl h
        · exact .inr (.inl ⟨h.1, by simp only; omega⟩)
        · exact (n1 h).elim
        · exact .inr (.inl ⟨by simp only; omega, h.2⟩)
    · rw [addS_no y z]
      refine ⟨Norm.put (Norm.put e a c (by omega)) h0 h2 (Int.le_refl _), fun u => ?_, by simp⟩
      rw [memS_app, memS_cons]
      simp [memS_nil]
theorem made_go : ∀ {r x : List (Int × Int)} {lo b hi : Int}, Norm lo b x → lo ≤ b → Rows b hi r → b ≤ hi →
    Norm lo hi (r.foldl addS x) ∧ (∀ u, memS (r.foldl addS x) u ↔ memS x u ∨ memS r u) ∧ (r.foldl addS x).length ≤ x.length + r.length
  | [], x, lo, b, hi, h, _, _, hb => ⟨h.mono (Int.le_refl _) hb, fun u => by simp [memS_nil], by simp⟩
  | s :: r, x, lo, b, hi, h, hl, ⟨h1, h2, h3, h4⟩, hb => by
    obtain ⟨a1, a2, a3⟩ := addS_ok (lo := lo) h h1 (by omega) h2
    obtain ⟨b1, b2, b3⟩ := made_go a1 (by omega) h4 h3
    refine ⟨b1, fun u => ?_, by rw [List.foldl_cons, List.length_cons]; omega⟩
    rw [List.foldl_cons, b2, a2, memS_cons]
    exact or_assoc
theorem made_ok {r : List (Int × Int)} {hi : Int} (h : Rows 0 hi r) (h0 : 0 ≤ hi) : Norm 0 hi (made r) ∧ (∀ u, memS (made r) u ↔ memS r u) ∧ (made r).length ≤ r.length := by
  obtain ⟨a, b, c⟩ := made_go (x := []) (lo := 0) (b := 0) trivial (Int.le_refl _) h h0
  refine ⟨a, fun u => ?_, by simpa [made] using c⟩
  unfold made; rw [b]; simp [memS_nil]
/-! ### what a cut tells between two points -/
def ptU (b g : Int) : Int := (-b) % g
theorem ptU_in (b : Int) {g : Int} (hg : 0 < g) : 0 ≤ ptU b g ∧ ptU b g < g := ⟨Int.emod_nonneg _ (Int.ne_of_gt hg), Int.emod_lt_of_pos _ hg⟩
theorem fdv_eq {x g q : Int} (hg : 0 < g) (h1 : g * q ≤ x) (h2 : x < g * q + g) : x / g = q := by
  have e : x = (x - g * q) + g * q := by omega
  rw [e, Int.add_mul_ediv_left _ _ (Int.ne_of_gt hg), Int.ediv_eq_zero_of_lt (by omega) (by omega)]; omega
def topU (b g : Int) : Int := -((-b) / g)
theorem topU_eq (b g : Int) : b + ptU b g = g * topU b g := by
  have e := Int.mul_ediv_add_emod (-b) g
  have ep : (-b) % g = ptU b g := rfl
  rw [ep] at e
  unfold topU
  rw [Int.mul_neg]; omega
theorem at_unit (b : Int) {g u : Int} (hg : 0 < g) (h0 : 0 ≤ u) (h1 : u < g) : (b + u) / g = (if ptU b g ≤ u then topU b g else topU b g - 1) := by
  obtain ⟨p0, p1⟩ := ptU_in b hg
  have e := topU_eq b g
  generalize topU b g = q at e ⊢
  have k2 : g * (q - 1) = g * q - g := by rw [Int.mul_sub]; omega
  split
  · exact fdv_eq hg (by omega) (by omega)
  · exact fdv_eq hg (by omega) (by omega)
/-- the least number told, and the units of those cuts that tell one more -/
def lesser (bi bj g : Int) : Int := (bj - bi) / g
def arcS (p q g : Int) : List (Int × Int) := if p ≤ q then (if p < q then [(p, q)] else []) else (if q > 0 then [(0, q)] else []) ++ [(p, g)]
theorem arcS_ok {p q g : Int} (p0 : 0 ≤ p) (p1 : p < g) (q0 : 0 ≤ q) (q1 : q < g) : Norm 0 g (arcS p q g) ∧ (∀ u, memS (arcS p q g) u ↔ (0 ≤ u ∧ u < g) ∧ (if p ≤ q then p ≤ u ∧ u < q else u < q ∨ p ≤ u)) ∧ (arcS p q g).length ≤ 2 := by
  have n1 : ∀ u, ¬ memS [] u := fun u => memS_nil
  unfold arcS
  by_cases h : p ≤ q
  · rw [if_pos h]
    by_cases h2 : p < q
    · rw [if_pos h2]
      refine ⟨⟨p0, h2, by show q ≤ g; omega, trivial⟩, fun u => ?_, by simp⟩
      rw [memS_cons, if_pos h]
      have := n1 u
      constructor
      · rintro (z | z)
        · simp only at z; omega
        · exact (this z).elim
      · intro z; left; simp only; omega
    · rw [if_neg h2]
      refine ⟨trivial, fun u => ?_, by simp⟩
      rw [if_pos h]
      have := n1 u
      constructor
      · intro z; exact (this z).elim
      · intro z; omega
  · rw [if_neg h]
    by_cases h2 : q > 0
    · rw [if_pos h2]
      refine ⟨⟨Int.le_refl _, h2, by show q ≤ g; omega, by show q + 1 ≤ p; omega, p1, Int.le_refl _, trivial⟩, fun u => ?_, by simp⟩
      rw [List.cons_append, List.nil_append, memS_cons, memS_cons, if_neg h]
      have := n1 u
      constructor
      · rintro (z | z | z)
        · simp only at z; omega
        · simp only at z; omega
        · exact (this z).elim
      · intro z; simp only; omega
    · rw [if_neg h2]
      refine ⟨⟨p0, p1, Int.le_refl _, trivial⟩, fun u => ?_, by simp⟩
      rw [List.nil_append, memS_cons, if_neg h]
      have := n1 u
      constructor
      · rintro (z | z)
        · simp only at z; omega
        · exact (this z).elim
      · intro z; simp only; omega
theorem told_is (bi bj : Int) {g u : Int} (hg : 0 < g) (h0 : 0 ≤ u) (h1 : u < g) :
    (bj + u) / g - (bi + u) / g = lesser bi bj g + (if (if ptU bj g ≤ ptU bi g then ptU bj g ≤ u ∧ u < ptU bi g else u < ptU bi g ∨ ptU bj g ≤ u) then 1 else 0) := by
  rw [at_unit bi hg h0 h1, at_unit bj hg h0 h1]
  obtain ⟨p0, p1⟩ := ptU_in bi hg
  obtain ⟨q0, q1⟩ := ptU_in bj hg
  have e1 := topU_eq bi g
  have e2 := topU_eq bj g
  unfold lesser
  generalize ptU bi g = p at *
  generalize ptU bj g = q at *
  generalize topU bi g = a at *
  generalize topU bj g = b at *
  have k1 : g * (b - a) = g * b - g * a := Int.mul_sub ..
  have k2 : g * (b - a - 1) = g * b - g * a - g := by rw [Int.mul_sub, Int.mul_sub]; omega
  by_cases h : q ≤ p
  · rw [show (bj - bi) / g = b - a from fdv_eq hg (by omega) (by omega)]
    simp only [h, if_true]
    split <;> split <;> split <;> omega
  · rw [show (bj - bi) / g = b - a - 1 from fdv_eq hg (by omega) (by omega)]
    simp only [h, if_false]
    split <;> split <;> split <;> omega
/-- the rest of the ring -/
def outG (x : List (Int × Int)) (at0 : Int) : List (Int × Int) × Int := x.foldl (fun p s => (if p.2 < s.1 then p.1 ++ [(p.2, s.1)] else p.1, s.2)) ([], at0)
def outS (x : List (Int × Int)) (g : Int) : List (Int × Int) := if (outG x 0).2 < g then (outG x 0).1 ++ [((outG x 0).2, g)] else (outG x 0).1
theorem out_go : ∀ {r f : List (Int × Int)} {a g : Int}, Norm 0 (a - 1) f → 0 ≤ a → a ≤ g → Rows a g r → (∀ s ∈ r, s.1 ≠ a ∨ a = 0) → (Norm a g r ∨ Norm (a + 1) g r) →
    ∃ f' a', (r.foldl (fun (p : List (Int × Int) × Int) s => (if p.2 < s.1 then p.1 ++ [(p.2, s.1)] else p.1, s.2)) (f, a)) = (f', a') ∧ Norm 0 (a' - 1) f' ∧ 0 ≤ a' ∧ a' ≤ g ∧ (∀ u, (memS f' u ∨ a' ≤ u) ↔ (memS f u ∨ (a ≤ u ∧ ¬ memS r u))) ∧ f'.length ≤ f.length + r.length
  | [], f, a, g, h, h0, hg, _, _, _ => ⟨f, a, rfl, h, h0, hg, fun u => by simp [memS_nil], by simp⟩
  | s :: r, f, a, g, h, h0, hg, ⟨r1, r2, r3, r4⟩, hs, hn => by
    have hn' : Norm (s.2 + 1) g r := by rcases hn with hn | hn <;> exact hn.2.2.2
    have st : Norm 0 (s.2 - 1) (if a < s.1 then f ++ [(a, s.1)] else f) := by
      by_cases z : a < s.1
      · rw [if_pos z]; exact Norm.put h h0 z (by show s.1 ≤ s.2 - 1; omega)
      · rw [if_neg z]; exact h.mono (Int.le_refl _) (by omega)
    obtain ⟨f', a', e, b1, b2, b3, b4, b5⟩ := out_go (r := r) (a := s.2) st (by omega) r3 r4 (fun t ht => by
      have := hn'.len_le t ht; left; omega) (.inr hn')
    refine ⟨f', a', e, b1, b2, b3, fun u => ?_, ?_⟩
    · rw [b4, memS_cons]
      have hb : memS r u → s.2 + 1 ≤ u := fun q => (hn'.bnd q).1
      have hf : memS (if a < s.1 then f ++ [(a, s.1)] else f) u ↔ memS f u ∨ (a ≤ u ∧ u < s.1) := by
        by_cases z : a < s.1
        · rw [if_pos z, memS_app, memS_cons]; simp [memS_nil]
        · rw [if_neg z]
          constructor
          · exact .inl
          · rintro (q | q)
            · exact q
            · omega
      rw [hf]
      have hfb : memS f u → u < a - 1 := fun q => (h.bnd q).2
      by_cases m : memS r u
      · have := hb m
        constructor
        · rintro ((q | q) | ⟨_, q⟩)
          · exact .inl q
          · omega
          · exact (q m).elim
        · rintro (q | ⟨_, q⟩)
          · exact .inl (.inl q)
          · exact (q (.inr m)).elim
      · constructor
        · rintro ((q | q) | ⟨q, _⟩)
          · exact .inl q
          · refine .inr ⟨q.1, ?_⟩
            rintro (w | w)
            · omega
            · exact m w
          · refine .inr ⟨by omega, ?_⟩
            rintro (w | w)
            · omega
            · exact m w
        · rintro (q | ⟨q, w⟩)
          · exact .inl (.inl q)
          · by_cases z : u < s.1
            · exact .inl (.inr ⟨q, z⟩)
            · refine .inr ⟨?_, m⟩
              have : ¬ (s.1 ≤ u ∧ u < s.2) := fun k => w (.inl k)
              omega
    · rw [List.length_cons]
      have : (if a < s.1 then f ++ [(a, s.1)] else f).length ≤ f.length + 1 := by split <;> simp
      omega
theorem Norm.rows : ∀ {x : List (Int × Int)} {lo hi : Int}, Norm lo hi x → Rows lo hi x
  | [], _, _, _ => trivial
  | s :: x, lo, hi, ⟨a, b, c, d⟩ => ⟨a, b, c, (d.mono (by omega) (Int.le_refl _) : Norm s.2 hi x).rows⟩
theorem outS_ok {x : List (Int × Int)} {g : Int} (hg : 0 < g) (h : Norm 0 g x) : Norm 0 g (outS x g) ∧ (∀ u, memS (outS x g) u ↔ (0 ≤ u ∧ u < g) ∧ ¬ memS x u) ∧ (outS x g).length ≤ x.length + 1 := by
  obtain ⟨f', a', e, b1, b2, b3, b4, b5⟩ := out_go (r := x) (f := []) (a := 0) trivial (Int.le_refl _) (by omega) h.rows (fun _ _ => .inr rfl) (.inl h)
  have e' : outG x 0 = (f', a') := e
  unfold outS
  rw [e']
  simp only
  have b4' : ∀ u, (memS f' u ∨ a' ≤ u) ↔ (0 ≤ u ∧ ¬ memS x u) := fun u => by rw [b4]; simp [memS_nil]
  have b5' : f'.length ≤ x.length := by simpa using b5
  by_cases z : a' < g
  · rw [if_pos z]
    refine ⟨Norm.put b1 b2 z (Int.le_refl _), fun u => ?_, by simp; omega⟩
    rw [memS_app, memS_cons]
    have q := b4' u
    have n1 := @memS_nil u
    constructor
    · rintro (w | w | w)
      · have := (b1.bnd w); have := q.mp (.inl w); exact ⟨by omega, this.2⟩
      · have := q.mp (.inr w.1); exact ⟨⟨this.1, w.2⟩, this.2⟩
      · exact (n1 w).elim
    · rintro ⟨⟨w1, w2⟩, w3⟩
      rcases q.mpr ⟨w1, w3⟩ with w | w
      · exact .inl w
      · exact .inr (.inl ⟨w, w2⟩)
  · rw [if_neg z]
    refine ⟨b1.mono (Int.le_refl _) (by omega), fun u => ?_, by omega⟩
    have q := b4' u
    constructor
    · intro w
      have := (b1.bnd w); have := q.mp (.inl w); exact ⟨by omega, this.2⟩
    · rintro ⟨⟨w1, w2⟩, w3⟩
      rcases q.mpr ⟨w1, w3⟩ with w | w
      · exact w
      · omega
/-- the units that a statement leaves -/
def allowS (bi bj g n : Int) : List (Int × Int) := if n = lesser bi bj g then outS (arcS (ptU bj g) (ptU bi g) g) g else if n = lesser bi bj g + 1 then arcS (ptU bj g) (ptU bi g) g else []
theorem allowS_ok (bi bj n : Int) {g : Int} (hg : 0 < g) : Norm 0 g (allowS bi bj g n) ∧ (∀ u, memS (allowS bi bj g n) u ↔ (0 ≤ u ∧ u < g) ∧ (bj + u) / g - (bi + u) / g = n) ∧ (allowS bi bj g n).length ≤ 3 := by
  obtain ⟨p0, p1⟩ := ptU_in bi hg
  obtain ⟨q0, q1⟩ := ptU_in bj hg
  obtain ⟨a1, a2, a3⟩ := arcS_ok q0 q1 p0 p1
  obtain ⟨o1, o2, o3⟩ := outS_ok hg a1
  unfold allowS
  by_cases h : n = lesser bi bj g
  · rw [if_pos h]
    refine ⟨o1, fun u => ?_, by omega⟩
    rw [o2, a2]
    constructor
    · rintro ⟨w1, w2⟩
      refine ⟨w1, ?_⟩
      rw [told_is bi bj hg w1.1 w1.2, if_neg (fun k => w2 ⟨w1, k⟩)]; omega
    · rintro ⟨w1, w2⟩
      refine ⟨w1, fun k => ?_⟩
      rw [told_is bi bj hg w1.1 w1.2, if_pos k.2] at w2; omega
  · rw [if_neg h]
    by_cases h2 : n = lesser bi bj g + 1
    · rw [if_pos h2]
      refine ⟨a1, fun u => ?_, by omega⟩
      rw [a2]
      constructor
      · rintro ⟨w1, w2⟩
        refine ⟨w1, ?_⟩
        rw [told_is bi bj hg w1.1 w1.2, if_pos w2]; omega
      · rintro ⟨w1, w2⟩
        refine ⟨w1, ?_⟩
        rw [told_is bi bj hg w1.1 w1.2] at w2
        refine Classical.byContradiction fun k => ?_
        rw [if_neg k] at w2; omega
    · rw [if_neg h2]
      refine ⟨trivial, fun u => ?_, by simp⟩
      constructor
      · intro w; exact (memS_nil w).elim
      · rintro ⟨w1, w2⟩
        rw [told_is bi bj hg w1.1 w1.2] at w2
        split at w2 <;> omega
/-! ### cells between points -/
def cellsG (g : Int) : List Int → List (Int × Int)
  | [] => []
  | p :: ps => (p, ps.headD g) :: cellsG g ps
theorem cells_in {g : Int} : ∀ {ps : List Int}, ps.Pairwise (· < ·) → (∀ p ∈ ps, p < g) → ∀ c ∈ cellsG g ps, c.1 ∈ ps ∧ c.1 < c.2 ∧ c.2 ≤ g ∧ ∀ p ∈ ps, p ≤ c.1 ∨ c.2 ≤ p
  | [], _, _, c, h => by cases h
  | [p], _, hg, c, h => by
    rw [cellsG, cellsG, List.mem_singleton] at h
    subst h
    exact ⟨by simp, hg p (by simp), Int.le_refl _, fun q hq => by rw [List.mem_singleton] at hq; subst hq; exact .inl (Int.le_refl _)⟩
  | p :: r :: ps, hp, hg, c, h => by
    have h' : c = (p, r) ∨ c ∈ cellsG g (r :: ps) := by rw [cellsG] at h; exact List.mem_cons.mp h
    have hp' := List.pairwise_cons.mp hp
    rcases h' with rfl | h'
    · refine ⟨by simp, hp'.1 r (by simp), Int.le_of_lt (hg r (by simp)), fun q hq => ?_⟩
      rcases List.mem_cons.mp hq with rfl | hq
      · exact .inl (Int.le_refl _)
      · rcases List.mem_cons.mp hq with rfl | hq
        · exact .inr (Int.le_refl _)
        · exact .inr (Int.le_of_lt ((List.pairwise_cons.mp hp'.2).1 q hq))
    · obtain ⟨a, b, d, e⟩ := cells_in hp'.2 (fun q hq => hg q (List.mem_cons_of_mem _ hq)) c h'
      refine ⟨List.mem_cons_of_mem _ a, b, d, fun q hq => ?_⟩
      rcases List.mem_cons.mp hq with rfl | hq
      · exact .inl (Int.le_of_lt (hp'.1 _ a))
      · exact e q hq
theorem cells_rows {g : Int} (F : Int → Bool) : ∀ {ps : List Int} {lo : Int}, ps.Pairwise (· < ·) → (∀ p ∈ ps, p < g) → (∀ p ∈ ps, lo ≤ p) → Rows lo g ((cellsG g ps).filter fun c => F c.1)
  | [], _, _, _, _ => trivial
  | p :: ps, lo, hp, hg, hl => by
    have hp' := List.pairwise_cons.mp hp
    obtain ⟨_, b, d, e⟩ := cells_in hp hg (p, ps.headD g) (by rw [cellsG]; simp)
    have hh : ∀ q ∈ ps, ps.headD g ≤ q := fun q hq => by
      rcases e q (List.mem_cons_of_mem _ hq) with z | z
      · have := hp'.1 q hq; simp only at z; omega
      · exact z
    have ih := cells_rows F (lo := ps.headD g) hp'.2 (fun q hq => hg q (List.mem_cons_of_mem _ hq)) hh
    rw [cellsG, List.filter_cons]
    have lp := hl p (by simp)
    split
    · exact ⟨lp, b, d, ih⟩
    · cases hf : (cellsG g ps).filter fun c => F c.1 with
      | nil => exact trivial
      | cons s r =>
        rw [hf] at ih
        obtain ⟨i1, i2, i3, i4⟩ := ih
        simp only at b
        exact ⟨by omega, i2, i3, i4⟩
theorem cells_mem {g : Int} (F : Int → Bool) (G : Int → Prop) : ∀ {ps : List Int} {p : Int}, (p :: ps).Pairwise (· < ·) → (∀ q ∈ p :: ps, q < g) →
    (∀ c ∈ cellsG g (p :: ps), ∀ u, c.1 ≤ u → u < c.2 → (F c.1 = true ↔ G u)) → ∀ u, memS ((cellsG g (p :: ps)).filter fun c => F c.1) u ↔ (p ≤ u ∧ u < g) ∧ G u
  | ps, p, hp, hg, hF, u => by
    have hp' := List.pairwise_cons.mp hp
    obtain ⟨_, b, d, e⟩ := cells_in hp hg (p, ps.headD g) (by rw [cellsG]; simp)
    have h1 := hF (p, ps.headD g) (by rw [cellsG]; simp) u
    have one : memS ((cellsG g (p :: ps)).filter fun c => F c.1) u ↔ ((p ≤ u ∧ u < ps.headD g) ∧ G u) ∨ memS ((cellsG g ps).filter fun c => F c.1) u := by
      rw [cellsG, List.filter_cons]
      split
      · rename_i hf
        rw [memS_cons]
        constructor
        · rintro (z | z)
          · exact .inl ⟨z, (h1 z.1 z.2).mp hf⟩
          · exact .inr z
        · rintro (z | z)
          · exact .inl z.1
          · exact .inr z
      · rename_i hf
        constructor
        · exact .inr
        · rintro (z | z)
          · exact (hf ((h1 z.1.1 z.1.2).mpr z.2)).elim
          · exact z
    rw [one]
    cases ps with
    | nil =>
      simp only [List.headD_nil] at *
      constructor
      · rintro (z | z)
        · exact z
        · exact (memS_nil z).elim
      · exact .inl
    | cons r ps =>
      rw [cells_mem F G hp'.2 (fun q hq => hg q (List.mem_cons_of_mem _ hq)) (fun c hc => hF c (by rw [cellsG]; exact List.mem_cons_of_mem _ hc)) u]
      simp only [List.headD_cons] at *
      have := hp'.1 r (by simp)
      have := hg r (by simp)
      constructor
      · rintro (z | z)
        · exact ⟨by omega, z.2⟩
        · exact ⟨by omega, z.2⟩
      · rintro ⟨z1, z2⟩
        by_cases w : u < r
        · exact .inl ⟨by omega, z2⟩
        · exact .inr ⟨by omega, z2⟩
theorem cells_len (g : Int) : ∀ ps : List Int, (cellsG g ps).length = ps.length
  | [] => rfl
  | p :: ps => by rw [cellsG, List.length_cons, cells_len g ps, List.length_cons]

theorem sub_len : ∀ {zs ns : List Int}, zs.Pairwise (· < ·) → (∀ z ∈ zs, z ∈ ns) → zs.length ≤ ns.length
  | [], _, _, _ => Nat.zero_le _
  | z :: zs, ns, h, hs => by
    have h' := List.pairwise_cons.mp h
    have m := hs z (by simp)
    have ih := sub_len (zs := zs) (ns := ns.erase z) h'.2 fun y hy => (List.mem_erase_of_ne (by have := h'.1 y hy; omega)).mpr (hs y (by simp [hy]))
    rw [List.length_erase_of_mem m] at ih
    have := List.length_pos_of_mem m
    rw [List.length_cons]; omega
/-- all that is stated is told -/
def Sat (es : List Ent) (g : Int) (ss : List Sta) (u : Int) : Prop := ∀ s ∈ ss, toldBy es g u s.first (s.first + s.many) = s.num
def satB (es : List Ent) (g : Int) (ss : List Sta) (u : Int) : Bool := ss.all fun s => decide (toldBy es g u s.first (s.first + s.many) = s.num)
theorem satB_iff {es : List Ent} {g u : Int} {ss : List Sta} : satB es g ss u = true ↔ Sat es g ss u := by
  unfold satB Sat
  rw [List.all_eq_true]
  constructor
  · exact fun h s hs => of_decide_eq_true (h s hs)
  · exact fun h s hs => decide_eq_true (h s hs)
def ends (ss : List (Int × Int)) : List Int := ss.flatMap fun s => [s.1, s.1 + s.2]
@[reducible] def fmS (s : Sta) : Int × Int := (s.first, s.many)
/-- few days, each perhaps often -/
def DaysFew (ds : List Int) : Prop := ds.length ≤ 900 ∧ ∃ L : List Int, L.length ≤ 62 ∧ ∀ d ∈ ds, d ∈ L
theorem daysFew_of {ds : List Int} (h : ds.length ≤ 62 ∨ DaysFew ds) : DaysFew ds := by
  rcases h with h | h
  · exact ⟨by omega, ds, h, fun _ h => h⟩
  · exact h
structure Points (es : List Ent) (g : Int) (ds : List Int) (ps : List Int) : Prop where
  sorted : ps.Pairwise (· < ·)
  mem : ∀ z, z ∈ ps ↔ z = 0 ∨ ∃ d ∈ ds, z = ptU (before es g d) g
theorem Points.low {es : List Ent} {g : Int} {ds ps : List Int} (hg : 0 < g) (h : Points es g ds ps) : (∀ p ∈ ps, 0 ≤ p ∧ p < g) ∧ ∃ r, ps = 0 :: r := by
  have b : ∀ p ∈ ps, 0 ≤ p ∧ p < g := fun p hp => by
    rcases (h.mem p).mp hp with rfl | ⟨d, _, rfl⟩
    · exact ⟨Int.le_refl _, hg⟩
    · exact ptU_in _ hg
  refine ⟨b, ?_⟩
  have z := (h.mem 0).mpr (.inl rfl)
  cases ps with
  | nil => cases z
  | cons p r =>
    have := b p (by simp)
    rcases List.mem_cons.mp z with rfl | z
    · exact ⟨r, rfl⟩
    · have := (List.pairwise_cons.mp h.sorted).1 0 z
      omega
theorem Points.len {es : List Ent} {g : Int} {ds ps : List Int} (h : Points es g ds ps) : ps.length ≤ ds.length + 1 := by
  have := sub_len (ns := 0 :: ds.map fun d => ptU (before es g d) g) h.sorted fun z hz => by
    rcases (h.mem z).mp hz with rfl | ⟨d, hd, rfl⟩
    · simp
    · exact List.mem_cons_of_mem _ (List.mem_map.mpr ⟨d, hd, rfl⟩)
  simpa using this
theorem Points.uniq {es : List Ent} {g : Int} {ds ds' : List Int} (hd : ∀ d, d ∈ ds ↔ d ∈ ds') : ∀ {ps ps' : List Int}, Points es g ds ps → Points es g ds' ps' → ps = ps' := by
  have go : ∀ ps ps' : List Int, ps.Pairwise (· < ·) → ps'.Pairwise (· < ·) → (∀ z, z ∈ ps ↔ z ∈ ps') → ps = ps' := by
    intro ps
    induction ps with
    | nil =>
      intro ps' _ _ e
      cases ps' with
      | nil => rfl
      | cons a r => have := (e a).mpr (by simp); cases this
    | cons p ps ih =>
      intro ps' h1 h2 e
      cases ps' with
      | nil => have := (e p).mp (by simp); cases this
      | cons a r =>
        have k1 := List.pairwise_cons.mp h1
        have k2 := List.pairwise_cons.mp h2
        have e1 : p = a := by
          rcases List.mem_cons.mp ((e p).mp (by simp)) with w | w
          · exact w
          · rcases List.mem_cons.mp ((e a).mpr (by simp)) with v | v
            · exact v.symm
            · have := k1.1 _ v; have := k2.1 _ w; omega
        subst e1
        rw [ih r k1.2 k2.2 fun z => ?_]
        have := e z
        constructor
        · intro w
          have l := k1.1 _ w
          rcases List.mem_cons.mp (this.mp (List.mem_cons_of_mem _ w)) with v | v
          · omega
          · exact v
        · intro w
          have l := k2.1 _ w
          rcases List.mem_cons.mp (this.mpr (List.mem_cons_of_mem _ w)) with v | v
          · omega
          · exact v
  intro ps ps' h h'
  refine go ps ps' h.sorted h'.sorted fun z => ?_
  rw [h.mem, h'.mem]
  constructor
  · rintro (w | ⟨d, w, v⟩)
    · exact .inl w
    · exact .inr ⟨d, (hd d).mp w, v⟩
  · rintro (w | ⟨d, w, v⟩)
    · exact .inl w
    · exact .inr ⟨d, (hd d).mpr w, v⟩
/-- between two neighbouring points the same is told -/
theorem told_same {es : List Ent} {g i j u v : Int} (hg : 0 < g) (hu : 0 ≤ u ∧ u < g) (hv : 0 ≤ v ∧ v < g) (hi : ptU (before es g i) g ≤ u ↔ ptU (before es g i) g ≤ v) (hj : ptU (before es g j) g ≤ u ↔ ptU (before es g j) g ≤ v) : toldBy es g u i j = toldBy es g v i j := by
  unfold toldBy
  rw [at_unit _ hg hu.1 hu.2, at_unit _ hg hu.1 hu.2, at_unit _ hg hv.1 hv.2, at_unit _ hg hv.1 hv.2]
  have e1 : (if ptU (before es g j) g ≤ u then topU (before es g j) g else topU (before es g j) g - 1) = (if ptU (before es g j) g ≤ v then topU (before es g j) g else topU (before es g j) g - 1) := by split <;> split <;> omega
  have e2 : (if ptU (before es g i) g ≤ u then topU (before es g i) g else topU (before es g i) g - 1) = (if ptU (before es g i) g ≤ v then topU (before es g i) g else topU (before es g i) g - 1) := by split <;> split <;> omega
  rw [e1, e2]
theorem mem_ends {ss : List Sta} {s : Sta} (h : s ∈ ss) : s.first ∈ ends (ss.map fmS) ∧ s.first + s.many ∈ ends (ss.map fmS) := by
  unfold ends
  constructor
  · exact List.mem_flatMap.mpr ⟨fmS s, List.mem_map.mpr ⟨s, h, rfl⟩, by simp⟩
  · exact List.mem_flatMap.mpr ⟨fmS s, List.mem_map.mpr ⟨s, h, rfl⟩, by simp⟩
theorem ends_len : ∀ ss : List (Int × Int), (ends ss).length = 2 * ss.length
  | [] => rfl
  | s :: ss => by
    have := ends_len ss
    unfold ends at *
    rw [List.flatMap_cons, List.length_append, this, List.length_cons]; simp; omega
def cellsS (es : List Ent) (g : Int) (ss : List Sta) (ps : List Int) : List (Int × Int) := (cellsG g ps).filter fun c => satB es g ss c.1
theorem cellsS_ok {es : List Ent} {g : Int} {ss : List Sta} {D ps : List Int} (hg : 0 < g) (h : Points es g D ps) (hD : ∀ d ∈ ends (ss.map fmS), d ∈ D) :
    Rows 0 g (cellsS es g ss ps) ∧ (∀ u, memS (cellsS es g ss ps) u ↔ (0 ≤ u ∧ u < g) ∧ Sat es g ss u) ∧ (cellsS es g ss ps).length ≤ ps.length := by
  obtain ⟨b, r, e⟩ := h.low hg
  have sr := h.sorted
  have pm : ∀ d ∈ D, ptU (before es g d) g ∈ ps := fun d hd => (h.mem _).mpr (.inr ⟨d, hd, rfl⟩)
  refine ⟨cells_rows _ sr (fun p hp => (b p hp).2) (fun p hp => (b p hp).1), fun u => ?_, Nat.le_trans (List.length_filter_le _ _) (Nat.le_of_eq (cells_len g ps))⟩
  subst e
  refine cells_mem (fun u => satB es g ss u) (Sat es g ss) sr (fun p hp => (b p hp).2) (fun c hc u h1 h2 => ?_) u
  obtain ⟨c1, c2, c3, c4⟩ := cells_in sr (fun p hp => (b p hp).2) c hc
  have bc := b _ c1
  rw [satB_iff]
  have key : ∀ d ∈ D, (ptU (before es g d) g ≤ c.1 ↔ ptU (before es g d) g ≤ u) := fun d hd => by
    have := c4 _ (pm d hd)
    omega
  have one : ∀ s ∈ ss, toldBy es g c.1 s.first (s.first + s.many) = toldBy es g u s.first (s.first + s.many) := fun s hs =>
    told_same hg bc (by omega) (key _ (hD _ (mem_ends hs).1)) (key _ (hD _ (mem_ends hs).2))
  unfold Sat
  constructor
  · exact fun w s hs => by rw [← one s hs]; exact w s hs
  · exact fun w s hs => by rw [one s hs]; exact w s hs
/-- a set of spans of units as ratios -/
def spanD (g : Int) (s : Int × Int) : PyData := .tuple [lowD s.1 g, lowD s.2 g]
/-- the spans of a set of units -/
structure IsSet (g : Int) (G : Int → Prop) (sp : List (Int × Int)) : Prop where
  norm : Norm 0 g sp
  mem : ∀ u, memS sp u ↔ (0 ≤ u ∧ u < g) ∧ G u
theorem IsSet.uniq {g : Int} {G G' : Int → Prop} {x y : List (Int × Int)} (h : IsSet g G x) (h' : IsSet g G' y) (e : ∀ u, 0 ≤ u → u < g → (G u ↔ G' u)) : x = y := by
  refine h.norm.uniq h'.norm fun u => ?_
  rw [h.mem, h'.mem]
  constructor
  · rintro ⟨a, b⟩; exact ⟨a, (e u a.1 a.2).mp b⟩
  · rintro ⟨a, b⟩; exact ⟨a, (e u a.1 a.2).mpr b⟩
theorem IsSet.big {g : Int} {G : Int → Prop} {x : List (Int × Int)} (h : IsSet g G x) : ∀ s ∈ x, s.1.natAbs ≤ g.natAbs ∧ s.2.natAbs ≤ g.natAbs := fun s hs => by
  have := h.norm.len_le s hs; omega
theorem shw_spans {n : Nat} {g : Int} {x : List (Int × Int)} (hg : 0 < g) (hb : g.natAbs < 2 ^ 700) (h : ∀ s ∈ x, s.1.natAbs ≤ g.natAbs ∧ s.2.natAbs ≤ g.natAbs) (hl : x.length ≤ 64) : Shw 600000 (n + 3) (.list (x.map (spanD g))) := by
  have up : (2 : Nat) ^ 700 < 2 ^ 1900 := by decide
  refine (shw_list (b := 9000) (n := n + 2) (m := 64) (fun y hy => ?_) (by rw [List.length_map]; exact hl)).up (by decide) (Nat.le_refl _)
  obtain ⟨s, hs, rfl⟩ := List.mem_map.mp hy
  have := h s hs
  refine (shw_tup (b := 4007) (n := n + 1) (m := 2) (fun z hz => ?_) (by simp)).up (by decide) (Nat.le_refl _)
  simp only [List.mem_cons, List.not_mem_nil, or_false] at hz
  rcases hz with rfl | rfl
  · exact shw_low (Int.ne_of_gt hg) (by omega) (by omega)
  · exact shw_low (Int.ne_of_gt hg) (by omega) (by omega)
theorem lay_rats {k : Nat} (x : List (Int × Int)) : lay (k + 2) (.list (x.map ratD)) := lay_list fun y hy => by
  obtain ⟨s, _, rfl⟩ := List.mem_map.mp hy; exact lay_rat _ _
/-! ### the number of units does not depend on the order -/
theorem lcmZ_dvd_iff {g u x : Int} (hg : 0 < g) (hu : 0 < u) : lcmZ g u ∣ x ↔ g ∣ x ∧ u ∣ x := by
  obtain ⟨_, d1, d2, _, _⟩ := lcmZ_ok hg hu
  constructor
  · exact fun h => ⟨Int.dvd_trans d1 h, Int.dvd_trans d2 h⟩
  · rintro ⟨h1, h2⟩
    have e : lcmZ g u = ((Nat.lcm g.natAbs u.natAbs : Nat) : Int) := by
      unfold lcmZ Nat.lcm
      rw [Int.natCast_ediv, Int.natCast_mul, Int.natAbs_of_nonneg (Int.le_of_lt hg), Int.natAbs_of_nonneg (Int.le_of_lt hu)]
      rfl
    rw [e, Int.ofNat_dvd_left]
    exact Nat.lcm_dvd (Int.natAbs_dvd_natAbs.mpr h1) (Int.natAbs_dvd_natAbs.mpr h2)
theorem gr1_dvd_iff {x : Int} : ∀ {am : List (Int × Int)} {g : Int}, 0 < g → (∀ r ∈ am, AmOk r) → (gr1 g am ∣ x ↔ g ∣ x ∧ ∀ r ∈ am, r.2 ∣ x)
  | [], g, _, _ => by simp [gr1]
  | r :: am, g, hg, h => by
    have hr := h r (by simp)
    have ih := gr1_dvd_iff (x := x) (am := am) (lcmZ_ok hg hr.ok.1).1 fun y hy => h y (by simp [hy])
    show gr1 (lcmZ g r.2) am ∣ x ↔ _
    rw [ih, lcmZ_dvd_iff hg hr.ok.1]
    simp [and_assoc]
theorem grain_dvd_go {x : Int} : ∀ {es : List Ent} {g : Int}, 0 < g → (∀ e ∈ es, EntOk e) → (es.foldl (fun g e => gr1 g e.am) g ∣ x ↔ g ∣ x ∧ ∀ e ∈ es, ∀ r ∈ e.am, r.2 ∣ x)
  | [], g, _, _ => by simp
  | e :: es, g, hg, h => by
    have he := h e (by simp)
    have ih := grain_dvd_go (x := x) (es := es) (gr1_ok hg he.ams).1 fun y hy => h y (by simp [hy])
    rw [List.foldl_cons, ih, gr1_dvd_iff hg he.ams]
    simp [and_assoc]
theorem grain_same {es fs : List Ent} (h : ∀ e ∈ es, EntOk e) (hs : ∀ e, e ∈ fs ↔ e ∈ es) : grain fs = grain es := by
  have hf : ∀ e ∈ fs, EntOk e := fun e he => h e ((hs e).mp he)
  have p1 := (grain_ok' (g := 1) (by decide) h).1
  have p2 := (grain_ok' (g := 1) (by decide) hf).1
  have d : ∀ x, grain es ∣ x ↔ grain fs ∣ x := fun x => by
    unfold grain
    rw [grain_dvd_go (by decide) h, grain_dvd_go (by decide) hf]
    constructor
    · rintro ⟨a, b⟩; exact ⟨a, fun e he => b e ((hs e).mp he)⟩
    · rintro ⟨a, b⟩; exact ⟨a, fun e he => b e ((hs e).mpr he)⟩
  exact Int.dvd_antisymm (Int.le_of_lt p2) (Int.le_of_lt p1) ((d _).mpr (Int.dvd_refl _) |> fun q => by exact (d (grain es)).mp (Int.dvd_refl _)) ((d (grain fs)).mpr (Int.dvd_refl _))
/-! ### what two sets share -/
def inter (s t : Int × Int) : Option (Int × Int) := if mx s.1 t.1 < mn s.2 t.2 then some (mx s.1 t.1, mn s.2 t.2) else none
def meetS (x y : List (Int × Int)) : List (Int × Int) := x.flatMap fun s => y.filterMap (inter s)
theorem mx_le {a b u : Int} : mx a b ≤ u ↔ a ≤ u ∧ b ≤ u := by unfold mx; split <;> omega
theorem lt_mn {a b u : Int} : u < mn a b ↔ u < a ∧ u < b := by unfold mn; split <;> omega
theorem inter_some {s t r : Int × Int} : inter s t = some r ↔ mx s.1 t.1 < mn s.2 t.2 ∧ r = (mx s.1 t.1, mn s.2 t.2) := by
  unfold inter
  by_cases h : mx s.1 t.1 < mn s.2 t.2
  · rw [if_pos h]
    constructor
    · intro e; exact ⟨h, (Option.some.inj e).symm⟩
    · intro e; rw [e.2]
  · rw [if_neg h]
    constructor
    · intro e; cases e
    · intro e; exact (h e.1).elim
theorem inter_mem (s : Int × Int) {y : List (Int × Int)} {u : Int} : memS (y.filterMap (inter s)) u ↔ (s.1 ≤ u ∧ u < s.2) ∧ memS y u := by
  constructor
  · rintro ⟨r, hr, h1, h2⟩
    obtain ⟨t, ht, e⟩ := List.mem_filterMap.mp hr
    obtain ⟨_, rfl⟩ := inter_some.mp e
    have a := mx_le.mp h1
    have b := lt_mn.mp h2
    exact ⟨⟨a.1, b.1⟩, t, ht, a.2, b.2⟩
  · rintro ⟨⟨h1, h2⟩, t, ht, h3, h4⟩
    have a : mx s.1 t.1 ≤ u := mx_le.mpr ⟨h1, h3⟩
    have b : u < mn s.2 t.2 := lt_mn.mpr ⟨h2, h4⟩
    exact ⟨_, List.mem_filterMap.mpr ⟨t, ht, inter_some.mpr ⟨by omega, rfl⟩⟩, a, b⟩
theorem meet_mem {x y : List (Int × Int)} {u : Int} : memS (meetS x y) u ↔ memS x u ∧ memS y u := by
  unfold meetS
  induction x with
  | nil => simp [memS_nil]
  | cons s x ih =>
    rw [List.flatMap_cons, memS_app, inter_mem, ih, memS_cons]
    constructor
    · rintro (⟨a, b⟩ | ⟨a, b⟩)
      · exact ⟨.inl a, b⟩
      · exact ⟨.inr a, b⟩
    · rintro ⟨a | a, b⟩
      · exact .inl ⟨a, b⟩
      · exact .inr ⟨a, b⟩
theorem Norm.empty {x : List (Int × Int)} {lo hi : Int} (h : Norm lo hi x) (hl : hi ≤ lo) : x = [] := by
  cases x with
  | nil => rfl
  | cons s r => obtain ⟨a, b, c, _⟩ := h; omega
theorem inter_norm (s : Int × Int) : ∀ {y : List (Int × Int)} {lo hi : Int}, Norm lo hi y → Norm (mx s.1 lo) s.2 (y.filterMap (inter s))
  | [], _, _, _ => trivial
  | t :: y, lo, hi, ⟨a, b, c, d⟩ => by
    have ih := inter_norm s d
    have m1 : mx s.1 lo ≤ mx s.1 t.1 := by unfold mx; split <;> split <;> omega
    have m2 : mx s.1 t.1 ≤ mx s.1 (t.2 + 1) := by unfold mx; split <;> split <;> omega
    cases e : inter s t with
    | none =>
      rw [List.filterMap_cons_none e]
      exact ih.mono (by omega) (Int.le_refl _)
    | some r =>
      obtain ⟨h, rfl⟩ := inter_some.mp e
      rw [List.filterMap_cons_some e]
      have k : mn s.2 t.2 ≤ s.2 := by unfold mn; split <;> omega
      refine ⟨m1, h, k, ?_⟩
      by_cases z : t.2 < s.2
      · have e2 : mn s.2 t.2 = t.2 := by unfold mn; rw [if_pos z]
        refine ih.mono ?_ (Int.le_refl _)
        show mn s.2 t.2 + 1 ≤ _
        rw [e2]; unfold mx; split <;> omega
      · have e3 : y.filterMap (inter s) = [] := ih.empty (by unfold mx; split <;> omega)
        rw [e3]; trivial
theorem meet_norm {y : List (Int × Int)} {lo' hi' : Int} (hy : Norm lo' hi' y) : ∀ {x : List (Int × Int)} {lo hi : Int}, Norm lo hi x → Norm lo hi (meetS x y)
  | [], _, _, _ => trivial
  | s :: x, lo, hi, ⟨a, b, c, d⟩ => by
    have ih := meet_norm hy d
    have h1 := inter_norm s hy
    unfold meetS at *
    rw [List.flatMap_cons]
    exact Norm.app (b := s.2) (h1.mono (by unfold mx; split <;> omega) (Int.le_refl _)) ih c (by omega)
theorem Norm.asc : ∀ {x : List (Int × Int)} {lo hi : Int}, Norm lo hi x → (x.map (·.1)).Pairwise (· < ·)
  | [], _, _, _ => List.Pairwise.nil
  | s :: x, lo, hi, ⟨a, b, c, d⟩ => by
    rw [List.map_cons, List.pairwise_cons]
    refine ⟨fun z hz => ?_, Norm.asc d⟩
    obtain ⟨t, ht, rfl⟩ := List.mem_map.mp hz
    have := d.len_le t ht; omega
theorem meet_len {x y : List (Int × Int)} {lo hi lo' hi' : Int} (hx : Norm lo hi x) (hy : Norm lo' hi' y) : (meetS x y).length ≤ x.length + y.length := by
  have := sub_len (ns := x.map (·.1) ++ y.map (·.1)) (meet_norm hy hx).asc fun z hz => by
    obtain ⟨r, hr, rfl⟩ := List.mem_map.mp hz
    unfold meetS at hr
    obtain ⟨s, hs, hr⟩ := List.mem_flatMap.mp hr
    obtain ⟨t, ht, e⟩ := List.mem_filterMap.mp hr
    obtain ⟨_, rfl⟩ := inter_some.mp e
    rw [List.mem_append]
    show mx s.1 t.1 ∈ _ ∨ _
    unfold mx
    split
    · exact .inr (List.mem_map.mpr ⟨t, ht, rfl⟩)
    · exact .inl (List.mem_map.mpr ⟨s, hs, rfl⟩)
  simpa using this
theorem IsSet.meet {g : Int} {G G' : Int → Prop} {x y : List (Int × Int)} (h : IsSet g G x) (h' : IsSet g G' y) : IsSet g (fun u => G u ∧ G' u) (meetS x y) :=
  ⟨meet_norm h'.norm h.norm, fun u => by
    rw [meet_mem, h.mem, h'.mem]
    constructor
    · rintro ⟨⟨a, b⟩, _, d⟩; exact ⟨a, b, d⟩
    · rintro ⟨a, b, d⟩; exact ⟨⟨a, b⟩, a, d⟩⟩
theorem IsSet.all {g : Int} (hg : 0 < g) : IsSet g (fun _ => True) [(0, g)] := ⟨⟨Int.le_refl _, hg, Int.le_refl _, trivial⟩, fun u => by
  rw [memS_cons]; simp [memS_nil]⟩
theorem IsSet.iff {g : Int} {G G' : Int → Prop} {x : List (Int × Int)} (h : IsSet g G x) (e : ∀ u, G u ↔ G' u) : IsSet g G' x := ⟨h.norm, fun u => by rw [h.mem, e]⟩

/-! ### sums over the units of the ring -/
def isum (F : Int → Int) (a : Int) : Nat → Int
  | 0 => 0
  | n + 1 => isum F a n + F (a + n)
theorem isum_app (F : Int → Int) (a : Int) (m : Nat) : ∀ n : Nat, isum F a (m + n) = isum F a m + isum F (a + m) n
  | 0 => by rw [isum]; simp
  | n + 1 => by
    rw [← Nat.add_assoc, isum, isum, isum_app F a m n, Int.natCast_add]
    rw [show a + ((m : Int) + n) = a + m + n from by omega]; omega
theorem isum_congr {F G : Int → Int} {a : Int} : ∀ {n : Nat}, (∀ u, a ≤ u → u < a + n → F u = G u) → isum F a n = isum G a n
  | 0, _ => rfl
  | n + 1, h => by
    rw [isum, isum, isum_congr fun u h1 h2 => h u h1 (by omega), h (a + n) (by omega) (by omega)]
theorem isum_const (c a : Int) : ∀ n : Nat, isum (fun _ => c) a n = n * c
  | 0 => by simp [isum]
  | n + 1 => by
    rw [isum, isum_const c a n, Int.natCast_add, Int.add_mul]; simp
theorem isum_add (F G : Int → Int) (a : Int) : ∀ n : Nat, isum (fun u => F u + G u) a n = isum F a n + isum G a n
  | 0 => rfl
  | n + 1 => by rw [isum, isum, isum, isum_add F G a n]; omega
theorem isum_abs {F : Int → Int} {a : Int} {B : Nat} : ∀ {n : Nat}, (∀ u, a ≤ u → u < a + n → (F u).natAbs ≤ B) → (isum F a n).natAbs ≤ n * B
  | 0, _ => by simp [isum]
  | n + 1, h => by
    have h1 := isum_abs (n := n) fun u h1 h2 => h u h1 (by omega)
    have h2 := h (a + n) (by omega) (by omega)
    rw [isum, Nat.add_mul]; omega
theorem isum_le {F G : Int → Int} {a : Int} : ∀ {n : Nat}, (∀ u, a ≤ u → u < a + n → F u ≤ G u) → isum F a n ≤ isum G a n
  | 0, _ => Int.le_refl _
  | n + 1, h => by
    have h1 := isum_le (n := n) fun u h1 h2 => h u h1 (by omega)
    have h2 := h (a + n) (by omega) (by omega)
    rw [isum, isum]; omega
theorem isum_pos {F : Int → Int} {a u : Int} {n : Nat} (h : ∀ v, a ≤ v → v < a + n → 0 ≤ F v) (h1 : a ≤ u) (h2 : u < a + n) (h3 : 0 < F u) : 0 < isum F a n := by
  obtain ⟨k, hk⟩ : ∃ k : Nat, u = a + k := ⟨(u - a).toNat, by omega⟩
  subst hk
  have e : n = k + (1 + (n - k - 1)) := by omega
  rw [e, isum_app, isum_app, isum, isum]
  have z : ∀ (b : Int) (m : Nat), (∀ v, b ≤ v → v < b + m → 0 ≤ F v) → 0 ≤ isum F b m := fun b m hh => by
    have := isum_le (F := fun _ => 0) (G := F) (a := b) (n := m) hh
    rw [isum_const] at this; omega
  have z1 := z a k fun v h1 h2 => h v h1 (by omega)
  have z2 := z (a + k + (1 : Nat)) (n - k - 1) fun v h1 h2 => h v (by omega) (by omega)
  simp only [Int.natCast_zero, Int.add_zero]
  omega
theorem isum_span {F : Int → Int} {c a b : Int} (hab : a ≤ b) (h : ∀ u, a ≤ u → u < b → F u = c) : isum F a (b - a).toNat = (b - a) * c := by
  rw [isum_congr (G := fun _ => c) (fun u h1 h2 => h u h1 (by omega)), isum_const]
  congr 1; omega
theorem rows_low : ∀ {sp : List (Int × Int)} {lo hi : Int}, Rows lo hi sp → ∀ t ∈ sp, lo ≤ t.1
  | s :: r, lo, hi, ⟨a, b, c, d⟩, t, ht => by
    rcases List.mem_cons.mp ht with rfl | ht
    · exact a
    · have := rows_low d t ht; omega
theorem rows_sum {F : Int → Int} {v : Int × Int → Int} : ∀ {sp : List (Int × Int)} {lo hi : Int}, Rows lo hi sp → lo ≤ hi → (∀ s ∈ sp, ∀ u, s.1 ≤ u → u < s.2 → F u = v s) → (∀ u, lo ≤ u → u < hi → ¬ memS sp u → F u = 0) →
    isum F lo (hi - lo).toNat = (sp.map fun s => (s.2 - s.1) * v s).sum
  | [], lo, hi, _, hl, _, hz => by
    rw [isum_span hl (c := 0) fun u h1 h2 => hz u h1 h2 memS_nil]; simp
  | s :: r, lo, hi, h, hl, hv, hz => by
    obtain ⟨a, b, c, d⟩ := h
    have in2 : ∀ u, memS r u → s.2 ≤ u := fun u hu => by
      obtain ⟨t, ht, h1, _⟩ := hu
      exact Int.le_trans (rows_low d t ht) h1
    have ih := rows_sum (F := F) (v := v) d c (fun t ht => hv t (by simp [ht])) fun u h1 h2 h3 => hz u (by omega) h2 fun z => by
      rcases memS_cons.mp z with z | z
      · omega
      · exact h3 z
    have e : (hi - lo).toNat = (s.1 - lo).toNat + ((s.2 - s.1).toNat + (hi - s.2).toNat) := by omega
    have c1 : lo + ((s.1 - lo).toNat : Int) = s.1 := by omega
    have c2 : s.1 + ((s.2 - s.1).toNat : Int) = s.2 := by omega
    rw [e, isum_app, c1, isum_app, c2, ih, List.map_cons, List.sum_cons]
    rw [isum_span a (c := 0) fun u h1 h2 => hz u h1 (by omega) fun z => by
      rcases memS_cons.mp z with z | z
      · omega
      · have := in2 u z; omega]
    rw [isum_span (by omega) fun u h1 h2 => hv s (by simp) u h1 h2]
    simp
theorem isum_shift (F : Int → Int) (a : Int) : ∀ n : Nat, isum (fun u => F (u + 1)) a n = isum F (a + 1) n
  | 0 => rfl
  | n + 1 => by
    rw [isum, isum, isum_shift F a n]
    rw [show a + (n : Int) + 1 = a + 1 + n from by omega]
theorem herm_next {g : Int} (hg : 0 < g) (b : Int) : isum (fun u => (b + 1 + u) / g) 0 g.toNat = isum (fun u => (b + u) / g) 0 g.toNat + 1 := by
  have e1 : isum (fun u => (b + 1 + u) / g) 0 g.toNat = isum (fun u => (fun v => (b + v) / g) (u + 1)) 0 g.toNat :=
    isum_congr fun u _ _ => by show _ = (b + (u + 1)) / g; rw [show b + 1 + u = b + (u + 1) from by omega]
  have e2 := isum_app (fun v => (b + v) / g) 0 1 g.toNat
  have e3 : isum (fun v => (b + v) / g) 0 (1 + g.toNat) = isum (fun v => (b + v) / g) 0 g.toNat + (b + (0 + (g.toNat : Int))) / g := by
    rw [Nat.add_comm, isum]
  have e4 : (b + (0 + (g.toNat : Int))) / g = b / g + 1 := by
    rw [show b + (0 + (g.toNat : Int)) = b + g * 1 from by omega, Int.add_mul_ediv_left _ _ (Int.ne_of_gt hg)]
  have e5 := isum_shift (fun v => (b + v) / g) 0 g.toNat
  rw [e1, e5]
  rw [e3, e4, isum, isum] at e2
  simp only [Int.natCast_zero, Int.add_zero, Int.zero_add, Int.natCast_one] at e2 ⊢
  omega
theorem hermite {g : Int} (hg : 0 < g) (b : Int) : isum (fun u => (b + u) / g) 0 g.toNat = b := by
  have z : isum (fun u => (0 + u) / g) 0 g.toNat = 0 := by
    rw [isum_congr (G := fun _ => 0) fun u h1 h2 => by rw [Int.zero_add]; exact Int.ediv_eq_zero_of_lt h1 (by omega), isum_const]; simp
  have up : ∀ k : Nat, isum (fun u => ((k : Int) + u) / g) 0 g.toNat = k := fun k => by
    induction k with
    | zero => exact z
    | succ k ih => rw [Int.natCast_add, Int.natCast_one, herm_next hg, ih]
  have dn : ∀ k : Nat, isum (fun u => (-(k : Int) + u) / g) 0 g.toNat = -k := fun k => by
    induction k with
    | zero => exact z
    | succ k ih =>
      have := herm_next hg (-((k + 1 : Nat) : Int))
      rw [show -((k + 1 : Nat) : Int) + 1 = -(k : Int) from by omega, ih] at this
      omega
  rcases Int.le_total 0 b with h | h
  · have := up b.toNat
    rwa [show ((b.toNat : Nat) : Int) = b from by omega] at this
  · have := dn (-b).toNat
    rwa [show -(((-b).toNat : Nat) : Int) = b from by omega] at this
/-- the sum of what the units left tell, and their number -/
def avgN (es : List Ent) (g : Int) (ss : List Sta) (f m : Int) : Int := isum (fun u => if satB es g ss u = true then toldBy es g u f (f + m) else 0) 0 g.toNat
def avgD (es : List Ent) (g : Int) (ss : List Sta) : Int := isum (fun u => if satB es g ss u = true then 1 else 0) 0 g.toNat
def avgR (es : List Ent) (g : Int) (ss : List Sta) (f m : Int) : PyData := if 0 < avgD es g ss then lowD (avgN es g ss f m) (avgD es g ss) else .none
theorem told_bd {es : List Ent} {g u i j : Int} (hes : ∀ e ∈ es, EntOk e) (hl : es.length ≤ 8) (hg : 0 < g) (hb : g.natAbs < 2 ^ 700) (h0 : 0 ≤ u) (h1 : u < g) : (toldBy es g u i j).natAbs < 2 ^ 913 := by
  have b : ∀ d, ((before es g d + u) / g).natAbs < 2 ^ 912 := fun d =>
    Nat.lt_of_le_of_lt (div_le _ hg) (add_lt (m := 911) (lt_up (before_big hes hl hb d) (by decide)) (lt_up (m := 700) (by omega) (by decide)) (by decide))
  exact sub_lt (b j) (b i) (by decide)
theorem avgN_bd {es : List Ent} {g f m : Int} {ss : List Sta} (hes : ∀ e ∈ es, EntOk e) (hl : es.length ≤ 8) (hg : 0 < g) (hb : g.natAbs < 2 ^ 700) : (avgN es g ss f m).natAbs < 2 ^ 1620 := by
  have := isum_abs (F := fun u => if satB es g ss u = true then toldBy es g u f (f + m) else 0) (a := 0) (B := 2 ^ 913) (n := g.toNat) fun u h1 h2 => by
    show (if _ then _ else _ : Int).natAbs ≤ _
    split
    · exact Nat.le_of_lt (told_bd hes hl hg hb h1 (by omega))
    · exact Nat.zero_le _
  refine Nat.lt_of_le_of_lt this ?_
  have g1 : g.toNat < 2 ^ 700 := by omega
  exact Nat.lt_of_lt_of_le (Nat.mul_lt_mul_of_pos_right g1 (by decide)) (by decide)
theorem avgD_bd {es : List Ent} {g : Int} {ss : List Sta} (hg : 0 < g) : 0 ≤ avgD es g ss ∧ avgD es g ss ≤ g := by
  constructor
  · have := isum_le (F := fun _ => 0) (G := fun u => if satB es g ss u = true then 1 else 0) (a := 0) (n := g.toNat) fun u _ _ => by
      show (0 : Int) ≤ if _ then _ else _
      split <;> omega
    rw [isum_const] at this
    unfold avgD; omega
  · have := isum_le (F := fun u => if satB es g ss u = true then 1 else 0) (G := fun _ => 1) (a := 0) (n := g.toNat) fun u _ _ => by
      show (if _ then _ else _ : Int) ≤ 1
      split <;> omega
    rw [isum_const] at this
    unfold avgD; omega
theorem avg_plain {es : List Ent} {g f m : Int} (hg : 0 < g) : avgR es g [] f m = lowD (before es g (f + m) - before es g f) g := by
  have s : ∀ u, satB es g [] u = true := fun u => rfl
  have e2 : avgD es g [] = g := by
    unfold avgD
    rw [isum_congr (G := fun _ => 1) fun u _ _ => if_pos (s u), isum_const]; omega
  have e1 : avgN es g [] f m = before es g (f + m) - before es g f := by
    unfold avgN
    have h1 := isum_add (fun u => toldBy es g u f (f + m)) (fun u => (before es g f + u) / g) 0 g.toNat
    rw [hermite hg, isum_congr (G := fun u => (before es g (f + m) + u) / g) (fun u _ _ => by show toldBy es g u f (f + m) + _ = _; unfold toldBy; omega), hermite hg] at h1
    rw [isum_congr (G := fun u => toldBy es g u f (f + m)) fun u _ _ => if_pos (s u)]
    omega
  unfold avgR
  rw [e1, e2, if_pos hg]
def sizeS (x : List (Int × Int)) : Int := (x.map fun s => s.2 - s.1).sum
theorem size_mul (c : Int) : ∀ x : List (Int × Int), (x.map fun s => (s.2 - s.1) * c).sum = c * sizeS x
  | [] => by simp [sizeS]
  | s :: x => by
    have ih := size_mul c x
    unfold sizeS at *
    rw [List.map_cons, List.map_cons, List.sum_cons, List.sum_cons, ih, Int.mul_add, Int.mul_comm c (s.2 - s.1)]
theorem sum_one {t : Int} (c : Int → Int) : ∀ {zs : List Int}, zs.Pairwise (· < ·) → (zs.map fun z => if t = z then c z else 0).sum = if t ∈ zs then c t else 0
  | [], _ => by simp
  | z :: zs, h => by
    have h' := List.pairwise_cons.mp h
    rw [List.map_cons, List.sum_cons, sum_one c h'.2]
    by_cases e : t = z
    · subst e
      rw [if_pos rfl, if_neg (fun m => by have := h'.1 t m; omega), if_pos (by simp)]; omega
    · rw [if_neg e]
      by_cases m : t ∈ zs
      · rw [if_pos m, if_pos (by simp [m])]; omega
      · rw [if_neg m, if_neg (by simp [m, e])]; omega
theorem isum_list {α : Type} (G : α → Int → Int) (a : Int) (n : Nat) : ∀ ps : List α, isum (fun u => (ps.map fun p => G p u).sum) a n = (ps.map fun p => isum (G p) a n).sum
  | [] => by simp [isum_const]
  | p :: ps => by
    rw [List.map_cons, List.sum_cons, ← isum_list G a n ps, ← isum_add]
    exact isum_congr fun u _ _ => by rw [List.map_cons, List.sum_cons]
theorem size_bd : ∀ {x : List (Int × Int)} {lo hi : Int}, Rows lo hi x → lo ≤ hi → 0 ≤ sizeS x ∧ sizeS x ≤ hi - lo
  | [], lo, hi, _, h => ⟨Int.le_refl _, by show (0 : Int) ≤ _; omega⟩
  | s :: r, lo, hi, ⟨a, b, c, d⟩, h => by
    have ih := size_bd d c
    unfold sizeS at *
    rw [List.map_cons, List.sum_cons]; omega

/-! ### whole numbers day by day: a cut tells them where every run of days is near -/
def preS (ns : List Int) (i : Nat) : Int := (ns.take i).sum
def NearB (es : List Ent) (g : Int) (ns : List Int) (i j : Nat) : Prop := ((preS ns j - preS ns i) * g - (before es g (j : Nat) - before es g (i : Nat))).natAbs < g
def NearAll (es : List Ent) (g : Int) (ns : List Int) : Prop := ∀ j i : Nat, i < j → j ≤ ns.length → NearB es g ns i j
def dayS : Nat → List Int → List Sta
  | _, [] => []
  | k, n :: ns => ⟨(k : Nat), 1, n⟩ :: dayS (k + 1) ns
theorem dayS_len : ∀ (k : Nat) (ns : List Int), (dayS k ns).length = ns.length
  | _, [] => rfl
  | k, n :: ns => by rw [dayS, List.length_cons, dayS_len (k + 1) ns, List.length_cons]
theorem mem_dayS : ∀ {ns : List Int} {k : Nat} {s : Sta}, s ∈ dayS k ns ↔ ∃ i, ∃ h : i < ns.length, s = ⟨((k + i : Nat) : Int), 1, ns[i]⟩
  | [], k, s => by
    constructor
    · intro h; cases h
    · rintro ⟨i, h, _⟩; simp at h
  | n :: ns, k, s => by
    rw [dayS, List.mem_cons, mem_dayS]
    constructor
    · rintro (rfl | ⟨i, h, rfl⟩)
      · exact ⟨0, by simp, rfl⟩
      · exact ⟨i + 1, by simpa using h, by rw [show k + 1 + i = k + (i + 1) by omega]; rfl⟩
    · rintro ⟨i, h, rfl⟩
      cases i with
      | zero => exact .inl rfl
      | succ i => exact .inr ⟨i, by simpa using h, by rw [show k + 1 + i = k + (i + 1) by omega]; rfl⟩
theorem preS_succ {ns : List Int} {i : Nat} (h : i < ns.length) : preS ns (i + 1) = preS ns i + ns[i] := by
  unfold preS
  rw [List.take_add_one, List.getElem?_eq_getElem h, List.sum_append]; simp
theorem run_sum {ns : List Int} {i j : Nat} (h : i ≤ j) : ((ns.drop i).take (j - i)).sum = preS ns j - preS ns i := by
  unfold preS
  have e : ns.take j = ns.take i ++ (ns.drop i).take (j - i) := by
    rw [← List.take_add, show i + (j - i) = j by omega]
  rw [e, List.sum_append]; omega
theorem cut_run {ns : List Int} {i j : Nat} (h : i ≤ j) (hj : j ≤ ns.length) : cutL (ns.map PyData.int) (some (i : Nat)) (some (j : Nat)) = ((ns.drop i).take (j - i)).map PyData.int := by
  have e : ∀ k : Nat, k ≤ ns.length → ∀ d, HT.sIx (ns.map PyData.int).length d (some ((k : Nat) : Int)) = k := fun k hk d => by
    unfold HT.sIx
    dsimp only
    rw [if_neg (by omega), List.length_map]; omega
  unfold cutL
  rw [e i (by omega), e j hj, ← List.map_drop, ← List.map_take]
theorem pre_told {es : List Ent} {g u : Int} {ns : List Int} (h : Sat es g (dayS 0 ns) u) : ∀ j : Nat, j ≤ ns.length → (before es g (j : Nat) + u) / g - (before es g (0 : Nat) + u) / g = preS ns j
  | 0, _ => by unfold preS; simp
  | j + 1, hj => by
    have ih := pre_told h j (by omega)
    have hs := h _ (mem_dayS.mpr ⟨j, by omega, rfl⟩)
    unfold toldBy at hs
    dsimp only at hs
    rw [show ((0 + j : Nat) : Int) = (j : Nat) by omega, show ((j : Nat) : Int) + 1 = ((j + 1 : Nat) : Int) by omega] at hs
    rw [preS_succ (by omega)]
    omega
theorem sat_run {es : List Ent} {g u : Int} {ns : List Int} (h : Sat es g (dayS 0 ns) u) {i j : Nat} (hi : i ≤ ns.length) (hj : j ≤ ns.length) : toldBy es g u (i : Nat) (j : Nat) = preS ns j - preS ns i := by
  have a := pre_told h i hi
  have b := pre_told h j hj
  unfold toldBy
  omega
theorem sat_near {es : List Ent} {g u : Int} {ns : List Int} (hg : 0 < g) (h : Sat es g (dayS 0 ns) u) : NearAll es g ns := fun j i ij hj => by
  have e := sat_run h (i := i) (j := j) (by omega) hj
  unfold toldBy at e
  unfold NearB
  rw [← e, Int.sub_mul]
  have a1 := Int.emod_add_mul_ediv (before es g (j : Nat) + u) g
  have a2 := Int.emod_add_mul_ediv (before es g (i : Nat) + u) g
  have b1 := Int.emod_nonneg (before es g (j : Nat) + u) (Int.ne_of_gt hg)
  have b2 := Int.emod_nonneg (before es g (i : Nat) + u) (Int.ne_of_gt hg)
  have c1 := Int.emod_lt_of_pos (before es g (j : Nat) + u) hg
  have c2 := Int.emod_lt_of_pos (before es g (i : Nat) + u) hg
  rw [Int.mul_comm g] at a1 a2
  generalize (before es g (j : Nat) + u) / g * g = x at *
  generalize (before es g (i : Nat) + u) / g * g = y at *
  omega
theorem max_at (a : Nat → Int) : ∀ m : Nat, ∃ k, k ≤ m ∧ ∀ i, i ≤ m → a i ≤ a k
  | 0 => ⟨0, Nat.le_refl _, fun i hi => by rw [show i = 0 by omega]; exact Int.le_refl _⟩
  | m + 1 => by
    obtain ⟨k, hk, h⟩ := max_at a m
    by_cases c : a k ≤ a (m + 1)
    · exact ⟨m + 1, Nat.le_refl _, fun i hi => by
        by_cases e : i = m + 1
        · rw [e]; exact Int.le_refl _
        · have := h i (by omega); omega⟩
    · exact ⟨k, by omega, fun i hi => by
        by_cases e : i = m + 1
        · rw [e]; omega
        · exact h i (by omega)⟩
theorem near_sat {es : List Ent} {g : Int} {ns : List Int} (hg : 0 < g) (h : NearAll es g ns) : ∃ u, 0 ≤ u ∧ u < g ∧ Sat es g (dayS 0 ns) u := by
  obtain ⟨k, hk, hm⟩ := max_at (fun i => preS ns i * g - before es g (i : Nat)) ns.length
  have key : ∀ i : Nat, i ≤ ns.length → (before es g (i : Nat) + (preS ns k * g - before es g (k : Nat))) / g = preS ns i := fun i hi => by
    have h1 := hm i hi
    have h2 : preS ns k * g - before es g (k : Nat) < preS ns i * g - before es g (i : Nat) + g := by
      rcases Nat.lt_trichotomy i k with c | c | c
      · have := h k i c hk
        unfold NearB at this
        rw [Int.sub_mul] at this
        omega
      · subst c; omega
      · have := h i k c hi
        unfold NearB at this
        rw [Int.sub_mul] at this
        omega
    have e : before es g (i : Nat) + (preS ns k * g - before es g (k : Nat)) = (before es g (i : Nat) + (preS ns k * g - before es g (k : Nat)) - preS ns i * g) + preS ns i * g := by omega
    rw [e, Int.add_mul_ediv_right _ _ (Int.ne_of_gt hg), Int.ediv_eq_zero_of_lt (by omega) (by omega)]
    omega
  generalize hv : preS ns k * g - before es g (k : Nat) = v at key
  have ev := Int.emod_add_mul_ediv v g
  refine ⟨v % g, Int.emod_nonneg _ (Int.ne_of_gt hg), Int.emod_lt_of_pos _ hg, fun s hs => ?_⟩
  obtain ⟨i, hi, rfl⟩ := mem_dayS.mp hs
  have sh : ∀ t : Int, (t + v % g) / g = (t + v) / g - v / g := fun t => by
    have e : t + v % g = t + v + (-(v / g)) * g := by rw [Int.neg_mul, Int.mul_comm (v / g)]; omega
    rw [e, Int.add_mul_ediv_right _ _ (Int.ne_of_gt hg)]; omega
  unfold toldBy
  dsimp only
  rw [sh, sh, show ((0 + i : Nat) : Int) = (i : Nat) by omega, show ((i : Nat) : Int) + 1 = ((i + 1 : Nat) : Int) by omega, key i (by omega), key (i + 1) (by omega), preS_succ hi]
  omega
theorem near_iff {es : List Ent} {g : Int} {ns : List Int} (hg : 0 < g) : NearAll es g ns ↔ ∃ u, 0 ≤ u ∧ u < g ∧ Sat es g (dayS 0 ns) u :=
  ⟨near_sat hg, fun ⟨_, _, _, h⟩ => sat_near hg h⟩
theorem dayS_D : ∀ (k : Nat) (ns : List Int), mapD (fun d => match d with | .tuple [.int k, .int n] => staD ⟨k, 1, n⟩ | _ => .none) (enumF k (ns.map PyData.int)) = (dayS k ns).map staD
  | _, [] => rfl
  | k, n :: ns => by
    rw [mapD_eq, List.map_cons, enumF, List.map_cons, ← mapD_eq, dayS_D (k + 1) ns, dayS, List.map_cons]
theorem preS_bd {B : Nat} : ∀ {ns : List Int}, (∀ n ∈ ns, n.natAbs ≤ B) → ns.sum.natAbs ≤ ns.length * B
  | [], _ => by simp
  | n :: ns, h => by
    have ih := preS_bd fun y hy => h y (List.mem_cons_of_mem n hy)
    have hn := h n (by simp)
    rw [List.sum_cons, List.length_cons, Nat.add_mul, Nat.one_mul]
    generalize ns.length * B = q at *
    omega

/-! ### _law_days -/
def spec_days (xs ds : List PyData) (R : PyData → List PyData → Prop) : Prop := ∃ (a b l : Int) (es : List Ent), xs = [.int a, .int b] ∧ ds = [.list (es.map entD), .int l, .int (grain es)] ∧ BagOk a b ∧ (∀ e ∈ es, EntOk e) ∧ es.length ≤ 8 ∧ 1 ≤ l ∧ l ≤ 1000 ∧
  ∀ (ns : List Int) (a' b' : Int), ns.length = l.toNat → (∀ n ∈ ns, n.natAbs ≤ 2 ^ 925) → BagOk a' b' → R (.list (ns.map PyData.int)) [.int a', .int b']
theorem len_days {xs ds : List PyData} {R : PyData → List PyData → Prop} (h : spec_days xs ds R) : (PV.cel 0 :: dA ds).length = 4 := by
  obtain ⟨_, _, _, _, _, rfl, _⟩ := h; rfl
theorem ok_u_law_days (T : Top K w mg cC aI dI a_u_law_bag d_u_law_bag a_u_law_take d_u_law_take a_u_law_part d_u_law_part a_u_law_lowest d_u_law_lowest a_u_law_amount d_u_law_amount a_u_law_entry d_u_law_entry a_u_law_entries d_u_law_entries a_u_law_grain d_u_law_grain a_u_law_stretch d_u_law_stretch a_u_law_before d_u_law_before a_u_law_told d_u_law_told a_u_law_statements d_u_law_statements a_u_law_case d_u_law_case a_u_law_days d_u_law_days a_is_integer_kinds d_is_integer_kinds a_is_within d_is_within a_is_day d_is_day a_is_stretch d_is_stretch a_is_integer_ratios d_is_integer_ratios a_common d_common a_is_ratio d_is_ratio a_is_amount d_is_amount a_are_amounts d_are_amounts a_wrong_part d_wrong_part a_check_item d_check_item a_M_numbered d_M_numbered a_M_of_kind d_M_of_kind a_M_add d_M_add a_M_need d_M_need a_M_drop d_M_drop a_u_law_ledger d_u_law_ledger a_lowest d_lowest a_grain_of d_grain_of a_as_ratios d_as_ratios a_meet d_meet a_arc_of d_arc_of a_given_before d_given_before a_units_before d_units_before a_greater_arc d_greater_arc a_lesser_number d_lesser_number a_outside d_outside a_allowed_units d_allowed_units a_left_units d_left_units a_M_entries d_M_entries a_M_statements d_M_statements a_left d_left a_u_law_near d_u_law_near a_is_cut d_is_cut a_check_cut d_check_cut a_check_stretch d_check_stretch a_floor_of d_floor_of a_plus d_plus a_check_day d_check_day a_sum_before d_sum_before a_total_by d_total_by a_told d_told a_parts_of d_parts_of a_numbers d_numbers a_u_law_right d_u_law_right a_law d_law) (G_u_law_take : FnOkG P w K mg base 1 a_u_law_take d_u_law_take ["bag", "size"] (upF K (mutF spec_take))) (G_u_law_told : FnOkG P w K mg base 2 a_u_law_told d_u_law_told ["entries", "unit", "first", "many", "grain"] (upF K (pur spec_told))) :
    FnOkG P w K mg base 3 a_u_law_days d_u_law_days ["bag", "entries", "last", "grain"] (upF K (mutF spec_days)) := by
  refine okP (k := 2) T.F_u_law_days sc_u_law_days (n := 9) rfl ?len (fun cdv A outer s H E hr hgs => (wss_consB (ws_set (i := 4) sc_u_law_days.nd rfl (.inr rfl) (w_callM G_u_law_take (hr.mono (by decide)) hgs (by rfl) T.g_u_law_take T.F_u_law_take.kp T.b_u_law_take (wa_cons (w_var 0) (wa_cons (w_var 3) wa_nil))))
      (wss_consB (ws_setLC (i := 5) (own := [("day", 8)]) rfl sc_u_law_days.nd rfl rfl (sw_true rfl rfl rfl (by decide +kernel)) (wi_range1 (by rfl) T.m_range (wa_cons (w_var 2) wa_nil)) (blkOk_by (N := ["bag", "entries", "last", "grain", "unit", "found", "turn", "at", "day"]) (sc := defScope s_u_law_days) (by decide +kernel)) (by decide) (fun _ _ _ _ _ => (wg_name (i := 8) sc_u_law_days.nd rfl (.inl rfl))) (fun _ _ _ _ _ => wts_nil) (fun _ _ _ _ _ => (w_call G_u_law_told hr hgs (by rfl) T.g_u_law_told T.F_u_law_told.kp T.b_u_law_told (wa_cons (w_var 1) (wa_cons (w_var 4) (wa_cons (w_var 8) (wa_cons w_int (wa_cons (w_var 3) wa_nil))))))))
      (wss_consB (ws_for PassesOwn.never rfl (wi_range1 (by rfl) T.m_range (wa_cons (w_ixJ (w_list (wa_cons w_int (wa_cons w_int (wa_cons w_int (wa_cons w_int wa_nil))))) (w_callM G_u_law_take (hr.mono (by decide)) hgs (by rfl) T.g_u_law_take T.F_u_law_take.kp T.b_u_law_take (wa_cons (w_var 0) (wa_cons w_int wa_nil))) (fun _ _ => rfl)) wa_nil)) (wg_name (i := 6) sc_u_law_days.nd rfl (.inl rfl)) (wss_consB (ws_set (i := 7) sc_u_law_days.nd rfl (.inl rfl) (w_callM G_u_law_take (hr.mono (by decide)) hgs (by rfl) T.g_u_law_take T.F_u_law_take.kp T.b_u_law_take (wa_cons (w_var 0) (wa_cons (w_var 2) wa_nil))))
      (wss_one (ws_subJ (w_var 5) (w_var 7) (w_sub (w_add (w_ixJ (w_var 5) (w_var 7) (fun _ _ => rfl)) (w_mul w_int (w_callM G_u_law_take (hr.mono (by decide)) hgs (by rfl) T.g_u_law_take T.F_u_law_take.kp T.b_u_law_take (wa_cons (w_var 0) (wa_cons w_int wa_nil))))) w_int)))))
      (wss_one (ws_ret (w_fz (w_var 5)))))))) ?body
  case len =>
    rintro args S R ⟨xs, ds, R0, rfl, rfl, h, q⟩
    exact len_days h
  case body =>
    rintro args S R ⟨xs, ds, R0, rfl, rfl, h, q⟩
    obtain ⟨a, b, l, es, rfl, rfl, ok, hes, hl, l0, l1, hR⟩ := h
    have hg := grain_ok hes hl
    walk_at "n"
    refine ⟨a, b, grain es, rfl, rfl, ok, hg.pos, logP (lt_up hg.big (by decide : 700 ≤ 8000)), fun u a1 b1 u0 u1 ok1 => ?_⟩
    walk_at "n"
    refine ⟨⟨by omega, by omega⟩, ?_⟩
    refine ⟨by rw [rngD_len]; exact Nat.le_trans (show _ ≤ 1000 by omega) (by decide), fun i acc S => ∃ ns : List Int, S = [.lst [.int a1, .int b1]] ∧ acc = ns.map PyData.int ∧ ns.length = i ∧ ∀ n ∈ ns, n.natAbs < 2 ^ 920, ⟨[], rfl, rfl, rfl, fun n hn => (by cases hn)⟩, ?_, ?_⟩
    · rintro i d acc _ hd ⟨ns, rfl, rfl, hlen, hns⟩
      obtain ⟨rfl, hi⟩ := rngD_at hd
      walk_at "n"
      refine ⟨es, u, 0 + (i : Nat), 1, grain es, rfl, hes, hl, hg, ?_⟩
      walk_at "n"
      refine ⟨ns ++ [toldBy es (grain es) u (0 + (i : Nat)) (0 + (i : Nat) + 1)], rfl, by rw [List.map_append]; rfl, by rw [List.length_append, hlen]; rfl, fun n hn => ?_⟩
      rcases List.mem_append.mp hn with hn | hn
      · exact hns n hn
      · rw [List.mem_singleton] at hn; subst hn
        exact lt_up (told_bd hes hl hg.pos hg.big u0 u1) (by decide)
    rintro acc _ ⟨ns, rfl, rfl, hlen, hns⟩
    rw [rngD_len] at hlen
    walk_at "n"
    refine ⟨a1, b1, 4, rfl, rfl, ok1, by decide, by decide, fun k a2 b2 k0 k1 ok2 => ?_⟩
    have hx : ∃ t : Int, ixD [.int 0, .int 1, .int 1, .int 2] k = some (.int t) ∧ 0 ≤ t ∧ t ≤ 2 := by
      have : k = 0 ∨ k = 1 ∨ k = 2 ∨ k = 3 := by omega
      rcases this with rfl | rfl | rfl | rfl <;> exact ⟨_, rfl, by decide, by decide⟩
    obtain ⟨t, et, t0, t1⟩ := hx
    walk_at "n"
    refine ix_ok et ?_
    walk_at "n"
    refine ⟨⟨by omega, by omega⟩, ?_⟩
    refine ⟨fun i ρ S => ∃ (a b : Int) (ms : List Int) (o1 o2 o3 : Option PV), BagOk a b ∧ ms.length = l.toNat ∧ (∀ n ∈ ms, n.natAbs < 2 ^ 920 + i) ∧ ρ = [some (.cel 0), some (.d (.list (es.map entD))), some (.d (.int l)), some (.d (.int (grain es))), some (.d (.int u)), some (.cel 1), o1, o2, o3] ∧ S = [.lst [.int a, .int b], .lst (ms.map PyData.int)], ⟨a2, b2, ns, _, _, _, ok2, hlen, fun n hn => hns n hn, rfl, rfl⟩, ?_, ?_⟩
    · rintro i d _ _ hd ⟨a, b, ms, o1, o2, o3, ok, hm, hb, rfl, rfl⟩
      walk_at "n"
      refine ⟨a, b, l, rfl, rfl, ok, by omega, logP (m := 62) (by omega), fun at_ a3 b3 p0 p1 ok3 => ?_⟩
      have p2 : at_ < ((ms.map PyData.int).length : Nat) := by rw [List.length_map]; omega
      obtain ⟨v, ev, hv⟩ := ix_len (xs := ms.map PyData.int) p0 (by rw [List.length_map]; omega)
      obtain ⟨w, hw, rfl⟩ := List.mem_map.mp hv
      walk_at "n"
      refine ix_ok ev ?_
      walk_at "n"
      refine ⟨a3, b3, 2, rfl, rfl, ok3, by decide, by decide, fun y a4 b4 y0 y1 ok4 => ?_⟩
      walk_at "n"
      refine ⟨mulP (m := 10) (n := 10) (by decide) (by omega), ?_⟩
      walk_at "n"
      refine put_at p0 p2 ?_
      walk_at "n"
      refine .inl ⟨a4, b4, ms.set at_.toNat (w + 2 * y - 1), _, _, _, ok4, by rw [List.length_set]; exact hm, fun n hn => ?_, rfl, by rw [List.map_set]⟩
      rcases List.mem_or_eq_of_mem_set hn with hn | rfl
      · have := hb n hn; omega
      · have := hb w hw; omega
    · rintro _ _ ⟨a, b, ms, o1, o2, o3, ok, hm, hb, rfl, rfl⟩
      rw [rngD_len] at hb
      walk_at "n"
      have hb' : ∀ n ∈ ms, n.natAbs ≤ 2 ^ 925 := fun n hn => by
        have h1 := hb n hn
        have h2 : t.toNat ≤ 2 := by omega
        have h3 : (2 : Nat) ^ 920 + 2 ≤ 2 ^ 925 := by decide
        generalize (2 : Nat) ^ 920 = x at *
        generalize (2 : Nat) ^ 925 = y at *
        omega
      exact q _ _ (hR ms _ _ hm hb' ok) _
/-! ### is_integer_kinds -/
def spec_is_integer (ds : List PyData) (R : PyData → Prop) : Prop := ∃ d, ds = [d] ∧ R (.bool (isInt d))
theorem len_is_integer {ds : List PyData} {R : PyData → Prop} (h : spec_is_integer ds R) : (dA ds).length = 1 := by
  obtain ⟨_, rfl, _⟩ := h; rfl
theorem ok_is_integer_kinds (T : Top K w mg cC aI dI a_u_law_bag d_u_law_bag a_u_law_take d_u_law_take a_u_law_part d_u_law_part a_u_law_lowest d_u_law_lowest a_u_law_amount d_u_law_amount a_u_law_entry d_u_law_entry a_u_law_entries d_u_law_entries a_u_law_grain d_u_law_grain a_u_law_stretch d_u_law_stretch a_u_law_before d_u_law_before a_u_law_told d_u_law_told a_u_law_statements d_u_law_statements a_u_law_case d_u_law_case a_u_law_days d_u_law_days a_is_integer_kinds d_is_integer_kinds a_is_within d_is_within a_is_day d_is_day a_is_stretch d_is_stretch a_is_integer_ratios d_is_integer_ratios a_common d_common a_is_ratio d_is_ratio a_is_amount d_is_amount a_are_amounts d_are_amounts a_wrong_part d_wrong_part a_check_item d_check_item a_M_numbered d_M_numbered a_M_of_kind d_M_of_kind a_M_add d_M_add a_M_need d_M_need a_M_drop d_M_drop a_u_law_ledger d_u_law_ledger a_lowest d_lowest a_grain_of d_grain_of a_as_ratios d_as_ratios a_meet d_meet a_arc_of d_arc_of a_given_before d_given_before a_units_before d_units_before a_greater_arc d_greater_arc a_lesser_number d_lesser_number a_outside d_outside a_allowed_units d_allowed_units a_left_units d_left_units a_M_entries d_M_entries a_M_statements d_M_statements a_left d_left a_u_law_near d_u_law_near a_is_cut d_is_cut a_check_cut d_check_cut a_check_stretch d_check_stretch a_floor_of d_floor_of a_plus d_plus a_check_day d_check_day a_sum_before d_sum_before a_total_by d_total_by a_told d_told a_parts_of d_parts_of a_numbers d_numbers a_u_law_right d_u_law_right a_law d_law)  :
    FnOkG P w K mg base 1 a_is_integer_kinds d_is_integer_kinds ["thing"] (upF K (pur spec_is_integer)) := by
  refine okP (k := 0) T.F_is_integer_kinds sc_is_integer_kinds (n := 1) rfl ?len (fun cdv A outer s H E hr hgs => (wss_one (ws_ret (we_and (w_isi .int (by rfl) T.m_isinstance (by rfl) T.m_int (by decide +kernel) (w_var 0) (fun t h => pe_callB call_isi (by rfl) T.m_isinstance (by decide +kernel) (pa_cons h (pa_cons (pe_bltn (v := .ty "int") (by rfl) T.m_int (by decide +kernel) rfl) pa_nil)))) (we_one (we_not (w_isi .bool (by rfl) T.m_isinstance (by rfl) T.m_bool (by decide +kernel) (w_var 0) (fun t h => pe_callB call_isi (by rfl) T.m_isinstance (by decide +kernel) (pa_cons h (pa_cons (pe_bltn (v := .ty "bool") (by rfl) T.m_bool (by decide +kernel) rfl) pa_nil)))))))))) ?body
  case len =>
    rintro args S R ⟨rfl, ds, R0, rfl, h, q⟩
    exact len_is_integer h
  case body =>
    rintro args S R ⟨rfl, ds, R0, rfl, h, q⟩
    obtain ⟨d, rfl, hR⟩ := h
    cases d <;> exact q _ hR []
/-! ### is_within -/
@[reducible] def withinB (x : PyData) (lo hi : Int) : Bool := match x with
  | .int i => decide (lo ≤ i) && decide (i ≤ hi)
  | _ => false
def spec_is_within (ds : List PyData) (R : PyData → Prop) : Prop := ∃ (x : PyData) (lo hi : Int), ds = [x, .int lo, .int hi] ∧ R (.bool (withinB x lo hi))
theorem len_is_within {ds : List PyData} {R : PyData → Prop} (h : spec_is_within ds R) : (dA ds).length = 3 := by
  obtain ⟨_, _, _, rfl, _⟩ := h; rfl
theorem ok_is_within (T : Top K w mg cC aI dI a_u_law_bag d_u_law_bag a_u_law_take d_u_law_take a_u_law_part d_u_law_part a_u_law_lowest d_u_law_lowest a_u_law_amount d_u_law_amount a_u_law_entry d_u_law_entry a_u_law_entries d_u_law_entries a_u_law_grain d_u_law_grain a_u_law_stretch d_u_law_stretch a_u_law_before d_u_law_before a_u_law_told d_u_law_told a_u_law_statements d_u_law_statements a_u_law_case d_u_law_case a_u_law_days d_u_law_days a_is_integer_kinds d_is_integer_kinds a_is_within d_is_within a_is_day d_is_day a_is_stretch d_is_stretch a_is_integer_ratios d_is_integer_ratios a_common d_common a_is_ratio d_is_ratio a_is_amount d_is_amount a_are_amounts d_are_amounts a_wrong_part d_wrong_part a_check_item d_check_item a_M_numbered d_M_numbered a_M_of_kind d_M_of_kind a_M_add d_M_add a_M_need d_M_need a_M_drop d_M_drop a_u_law_ledger d_u_law_ledger a_lowest d_lowest a_grain_of d_grain_of a_as_ratios d_as_ratios a_meet d_meet a_arc_of d_arc_of a_given_before d_given_before a_units_before d_units_before a_greater_arc d_greater_arc a_lesser_number d_lesser_number a_outside d_outside a_allowed_units d_allowed_units a_left_units d_left_units a_M_entries d_M_entries a_M_statements d_M_statements a_left d_left a_u_law_near d_u_law_near a_is_cut d_is_cut a_check_cut d_check_cut a_check_stretch d_check_stretch a_floor_of d_floor_of a_plus d_plus a_check_day d_check_day a_sum_before d_sum_before a_total_by d_total_by a_told d_told a_parts_of d_parts_of a_numbers d_numbers a_u_law_right d_u_law_right a_law d_law) (G_is_integer_kinds : FnOkG P w K mg base 1 a_is_integer_kinds d_is_integer_kinds ["thing"] (upF K (pur spec_is_integer))) :
    FnOkG P w K mg base 2 a_is_within d_is_within ["thing", "low", "high"] (upF K (pur spec_is_within)) := by
  refine okP (k := 1) T.F_is_within sc_is_within (n := 3) rfl ?len (fun cdv A outer s H E hr hgs => (wss_one (ws_ret (we_and (w_call G_is_integer_kinds hr hgs (by rfl) T.g_is_integer_kinds T.F_is_integer_kinds.kp T.b_is_integer_kinds (wa_cons (w_var 0) wa_nil)) (we_one (w_chain okLe okLe m_I0 (w_var 1) (w_var 0) (w_var 2) (fun _ _ _ h1 h2 h3 => pe_chain op_le op_le h1 h2 h3))))))) ?body
  case len =>
    rintro args S R ⟨rfl, ds, R0, rfl, h, q⟩
    exact len_is_within h
  case body =>
    rintro args S R ⟨rfl, ds, R0, rfl, h, q⟩
    obtain ⟨x, lo, hi, rfl, hR⟩ := h
    walk_at "n"
    refine ⟨x, rfl, ?_⟩
    cases x with
    | int i =>
      walk_at "n"
      refine brD (fun c1 => ?_) (fun c1 => ?_)
      · walk_at "n"
        refine q _ ?_ _
        rw [show withinB (.int i) lo hi = decide (i ≤ hi) from by show (decide (lo ≤ i) && decide (i ≤ hi)) = _; rw [decide_eq_true c1]; rfl] at hR
        exact hR
      · refine q _ ?_ _
        rw [show withinB (.int i) lo hi = false from by show (decide (lo ≤ i) && decide (i ≤ hi)) = _; rw [decide_eq_false c1]; rfl] at hR
        exact hR
    | _ => exact q _ hR _
/-! ### is_day -/
def spec_is_day (ds : List PyData) (R : PyData → Prop) : Prop := ∃ x : PyData, ds = [x] ∧ R (.bool (withinB x 0 (10 ^ 30)))
theorem len_is_day {ds : List PyData} {R : PyData → Prop} (h : spec_is_day ds R) : (dA ds).length = 1 := by
  obtain ⟨_, rfl, _⟩ := h; rfl
theorem ok_is_day (T : Top K w mg cC aI dI a_u_law_bag d_u_law_bag a_u_law_take d_u_law_take a_u_law_part d_u_law_part a_u_law_lowest d_u_law_lowest a_u_law_amount d_u_law_amount a_u_law_entry d_u_law_entry a_u_law_entries d_u_law_entries a_u_law_grain d_u_law_grain a_u_law_stretch d_u_law_stretch a_u_law_before d_u_law_before a_u_law_told d_u_law_told a_u_law_statements d_u_law_statements a_u_law_case d_u_law_case a_u_law_days d_u_law_days a_is_integer_kinds d_is_integer_kinds a_is_within d_is_within a_is_day d_is_day a_is_stretch d_is_stretch a_is_integer_ratios d_is_integer_ratios a_common d_common a_is_ratio d_is_ratio a_is_amount d_is_amount a_are_amounts d_are_amounts a_wrong_part d_wrong_part a_check_item d_check_item a_M_numbered d_M_numbered a_M_of_kind d_M_of_kind a_M_add d_M_add a_M_need d_M_need a_M_drop d_M_drop a_u_law_ledger d_u_law_ledger a_lowest d_lowest a_grain_of d_grain_of a_as_ratios d_as_ratios a_meet d_meet a_arc_of d_arc_of a_given_before d_given_before a_units_before d_units_before a_greater_arc d_greater_arc a_lesser_number d_lesser_number a_outside d_outside a_allowed_units d_allowed_units a_left_units d_left_units a_M_entries d_M_entries a_M_statements d_M_statements a_left d_left a_u_law_near d_u_law_near a_is_cut d_is_cut a_check_cut d_check_cut a_check_stretch d_check_stretch a_floor_of d_floor_of a_plus d_plus a_check_day d_check_day a_sum_before d_sum_before a_total_by d_total_by a_told d_told a_parts_of d_parts_of a_numbers d_numbers a_u_law_right d_u_law_right a_law d_law) (G_is_within : FnOkG P w K mg base 2 a_is_within d_is_within ["thing", "low", "high"] (upF K (pur spec_is_within))) :
    FnOkG P w K mg base 3 a_is_day d_is_day ["thing"] (upF K (pur spec_is_day)) := by
  refine okP (k := 2) T.F_is_day sc_is_day (n := 1) rfl ?len (fun cdv A outer s H E hr hgs => (wss_one (ws_ret (w_call G_is_within hr hgs (by rfl) T.g_is_within T.F_is_within.kp T.b_is_within (wa_cons (w_var 0) (wa_cons w_int (wa_cons (w_cst T.w_LAST_DAY (by rfl)) wa_nil))))))) ?body
  case len =>
    rintro args S R ⟨rfl, ds, R0, rfl, h, q⟩
    exact len_is_day h
  case body =>
    rintro args S R ⟨rfl, ds, R0, rfl, h, q⟩
    obtain ⟨x, rfl, hR⟩ := h
    walk_at "n"
    refine ⟨x, 0, _, rfl, ?_⟩
    exact q _ hR _
/-! ### is_stretch -/
def stretchB : PyData → Bool
  | .tuple [.int f, y] => (decide (0 ≤ f) && decide (f ≤ 10 ^ 30)) && withinB y 1 (10 ^ 30 - f)
  | _ => false
def spec_is_stretch (ds : List PyData) (R : PyData → Prop) : Prop := ∃ x : PyData, ds = [x] ∧ R (.bool (stretchB x))
theorem len_is_stretch {ds : List PyData} {R : PyData → Prop} (h : spec_is_stretch ds R) : (dA ds).length = 1 := by
  obtain ⟨_, rfl, _⟩ := h; rfl
theorem ok_is_stretch (T : Top K w mg cC aI dI a_u_law_bag d_u_law_bag a_u_law_take d_u_law_take a_u_law_part d_u_law_part a_u_law_lowest d_u_law_lowest a_u_law_amount d_u_law_amount a_u_law_entry d_u_law_entry a_u_law_entries d_u_law_entries a_u_law_grain d_u_law_grain a_u_law_stretch d_u_law_stretch a_u_law_before d_u_law_before a_u_law_told d_u_law_told a_u_law_statements d_u_law_statements a_u_law_case d_u_law_case a_u_law_days d_u_law_days a_is_integer_kinds d_is_integer_kinds a_is_within d_is_within a_is_day d_is_day a_is_stretch d_is_stretch a_is_integer_ratios d_is_integer_ratios a_common d_common a_is_ratio d_is_ratio a_is_amount d_is_amount a_are_amounts d_are_amounts a_wrong_part d_wrong_part a_check_item d_check_item a_M_numbered d_M_numbered a_M_of_kind d_M_of_kind a_M_add d_M_add a_M_need d_M_need a_M_drop d_M_drop a_u_law_ledger d_u_law_ledger a_lowest d_lowest a_grain_of d_grain_of a_as_ratios d_as_ratios a_meet d_meet a_arc_of d_arc_of a_given_before d_given_before a_units_before d_units_before a_greater_arc d_greater_arc a_lesser_number d_lesser_number a_outside d_outside a_allowed_units d_allowed_units a_left_units d_left_units a_M_entries d_M_entries a_M_statements d_M_statements a_left d_left a_u_law_near d_u_law_near a_is_cut d_is_cut a_check_cut d_check_cut a_check_stretch d_check_stretch a_floor_of d_floor_of a_plus d_plus a_check_day d_check_day a_sum_before d_sum_before a_total_by d_total_by a_told d_told a_parts_of d_parts_of a_numbers d_numbers a_u_law_right d_u_law_right a_law d_law) (G_is_within : FnOkG P w K mg base 2 a_is_within d_is_within ["thing", "low", "high"] (upF K (pur spec_is_within))) (G_is_day : FnOkG P w K mg base 3 a_is_day d_is_day ["thing"] (upF K (pur spec_is_day))) :
    FnOkG P w K mg base 4 a_is_stretch d_is_stretch ["thing"] (upF K (pur spec_is_stretch)) := by
  refine okP (k := 3) T.F_is_stretch sc_is_stretch (n := 1) rfl ?len (fun cdv A outer s H E hr hgs => (wss_consB (ws_if (WW.wt (ww_or (wt_not (w_val (w_isi .tuple (by rfl) T.m_isinstance (by rfl) T.m_tuple (by decide +kernel) (w_var 0) (fun t h => pe_callB call_isi (by rfl) T.m_isinstance (by decide +kernel) (pa_cons h (pa_cons (pe_bltn (v := .ty "tuple") (by rfl) T.m_tuple (by decide +kernel) rfl) pa_nil)))))) (ww_or (wt_ne hr (w_bi ok_len (wa_cons (w_var 0) wa_nil) (fun t h => pe_callB (call_len_seq.or call_len_str) (by rfl) T.m_len (by decide +kernel) h)) w_int) (ww_or1 (wt_not (w_val (w_call G_is_day hr hgs (by rfl) T.g_is_day T.F_is_day.kp T.b_is_day (wa_cons (w_ix (w_var 0) w_int (fun _ _ => rfl)) wa_nil)))))))) (wss_one (ws_ret w_bl)) wss_nil)
      (wss_one (ws_ret (w_call G_is_within (hr.mono (by decide)) hgs (by rfl) T.g_is_within T.F_is_within.kp T.b_is_within (wa_cons (w_ix (w_var 0) w_int (fun _ _ => rfl)) (wa_cons w_int (wa_cons (w_sub (w_cst T.w_LAST_DAY (by rfl)) (w_ix (w_var 0) w_int (fun _ _ => rfl))) wa_nil)))))))) ?body
  case len =>
    rintro args S R ⟨rfl, ds, R0, rfl, h, q⟩
    exact len_is_stretch h
  case body =>
    rintro args S R ⟨rfl, ds, R0, rfl, h, q⟩
    obtain ⟨x, rfl, hR⟩ := h
    cases x with
    | tuple xs =>
      walk_at "n"
      match xs, hR with
      | [], hR => exact q _ hR _
      | [y], hR =>
        refine q _ ?_ _
        cases y <;> exact hR
      | y :: z :: w :: xs, hR =>
        refine brT ?_ ?_
        · rfl
        · refine q _ ?_ _
          cases y <;> exact hR
      | [y, z], hR =>
        walk_at "n"
        refine ⟨y, rfl, ?_⟩
        cases y with
        | int f =>
          by_cases c : 0 ≤ f ∧ f ≤ 10 ^ 30
          · rw [show withinB (.int f) 0 (10 ^ 30) = true from by show (decide (0 ≤ f) && decide (f ≤ 10 ^ 30)) = _; rw [decide_eq_true c.1, decide_eq_true c.2]; rfl]
            walk_at "n"
            refine ⟨z, 1, _, rfl, ?_⟩
            refine q _ ?_ _
            have e : stretchB (.tuple [.int f, z]) = withinB z 1 (10 ^ 30 - f) := by
              show ((decide (0 ≤ f) && decide (f ≤ 10 ^ 30)) && withinB z 1 (10 ^ 30 - f)) = _
              rw [decide_eq_true c.1, decide_eq_true c.2]; rfl
            rw [e] at hR
            exact hR
          · have w : withinB (.int f) 0 (10 ^ 30) = false := by
              show (decide (0 ≤ f) && decide (f ≤ 10 ^ 30)) = _
              by_cases c0 : 0 ≤ f
              · rw [decide_eq_true c0, decide_eq_false fun z => c ⟨c0, z⟩]; rfl
              · rw [decide_eq_false c0]; rfl
            rw [w]
            walk_at "n"
            refine q _ ?_ _
            have e : stretchB (.tuple [.int f, z]) = false := by
              show ((decide (0 ≤ f) && decide (f ≤ 10 ^ 30)) && withinB z 1 (10 ^ 30 - f)) = _
              rw [show (decide (0 ≤ f) && decide (f ≤ 10 ^ 30)) = false from w]; rfl
            rw [e] at hR
            exact hR
        | _ => exact q _ hR _
    | _ => exact q _ hR _
theorem ok_is_integer_ratios (T : Top K w mg cC aI dI a_u_law_bag d_u_law_bag a_u_law_take d_u_law_take a_u_law_part d_u_law_part a_u_law_lowest d_u_law_lowest a_u_law_amount d_u_law_amount a_u_law_entry d_u_law_entry a_u_law_entries d_u_law_entries a_u_law_grain d_u_law_grain a_u_law_stretch d_u_law_stretch a_u_law_before d_u_law_before a_u_law_told d_u_law_told a_u_law_statements d_u_law_statements a_u_law_case d_u_law_case a_u_law_days d_u_law_days a_is_integer_kinds d_is_integer_kinds a_is_within d_is_within a_is_day d_is_day a_is_stretch d_is_stretch a_is_integer_ratios d_is_integer_ratios a_common d_common a_is_ratio d_is_ratio a_is_amount d_is_amount a_are_amounts d_are_amounts a_wrong_part d_wrong_part a_check_item d_check_item a_M_numbered d_M_numbered a_M_of_kind d_M_of_kind a_M_add d_M_add a_M_need d_M_need a_M_drop d_M_drop a_u_law_ledger d_u_law_ledger a_lowest d_lowest a_grain_of d_grain_of a_as_ratios d_as_ratios a_meet d_meet a_arc_of d_arc_of a_given_before d_given_before a_units_before d_units_before a_greater_arc d_greater_arc a_lesser_number d_lesser_number a_outside d_outside a_allowed_units d_allowed_units a_left_units d_left_units a_M_entries d_M_entries a_M_statements d_M_statements a_left d_left a_u_law_near d_u_law_near a_is_cut d_is_cut a_check_cut d_check_cut a_check_stretch d_check_stretch a_floor_of d_floor_of a_plus d_plus a_check_day d_check_day a_sum_before d_sum_before a_total_by d_total_by a_told d_told a_parts_of d_parts_of a_numbers d_numbers a_u_law_right d_u_law_right a_law d_law)  :
    FnOkG P w K mg base 1 a_is_integer_ratios d_is_integer_ratios ["thing"] (upF K (pur spec_is_integer)) := by
  refine okP (k := 0) T.F_is_integer_ratios sc_is_integer_ratios (n := 1) rfl ?len (fun cdv A outer s H E hr hgs => (wss_one (ws_ret (we_and (w_isi .int (by rfl) T.m_isinstance (by rfl) T.m_int (by decide +kernel) (w_var 0) (fun t h => pe_callB call_isi (by rfl) T.m_isinstance (by decide +kernel) (pa_cons h (pa_cons (pe_bltn (v := .ty "int") (by rfl) T.m_int (by decide +kernel) rfl) pa_nil)))) (we_one (we_not (w_isi .bool (by rfl) T.m_isinstance (by rfl) T.m_bool (by decide +kernel) (w_var 0) (fun t h => pe_callB call_isi (by rfl) T.m_isinstance (by decide +kernel) (pa_cons h (pa_cons (pe_bltn (v := .ty "bool") (by rfl) T.m_bool (by decide +kernel) rfl) pa_nil)))))))))) ?body
  case len =>
    rintro args S R ⟨rfl, ds, R0, rfl, h, q⟩
    exact len_is_integer h
  case body =>
    rintro args S R ⟨rfl, ds, R0, rfl, h, q⟩
    obtain ⟨d, rfl, hR⟩ := h
    cases d <;> exact q _ hR []
/-! ### common -/

theorem ok_common (T : Top K w mg cC aI dI a_u_law_bag d_u_law_bag a_u_law_take d_u_law_take a_u_law_part d_u_law_part a_u_law_lowest d_u_law_lowest a_u_law_amount d_u_law_amount a_u_law_entry d_u_law_entry a_u_law_entries d_u_law_entries a_u_law_grain d_u_law_grain a_u_law_stretch d_u_law_stretch a_u_law_before d_u_law_before a_u_law_told d_u_law_told a_u_law_statements d_u_law_statements a_u_law_case d_u_law_case a_u_law_days d_u_law_days a_is_integer_kinds d_is_integer_kinds a_is_within d_is_within a_is_day d_is_day a_is_stretch d_is_stretch a_is_integer_ratios d_is_integer_ratios a_common d_common a_is_ratio d_is_ratio a_is_amount d_is_amount a_are_amounts d_are_amounts a_wrong_part d_wrong_part a_check_item d_check_item a_M_numbered d_M_numbered a_M_of_kind d_M_of_kind a_M_add d_M_add a_M_need d_M_need a_M_drop d_M_drop a_u_law_ledger d_u_law_ledger a_lowest d_lowest a_grain_of d_grain_of a_as_ratios d_as_ratios a_meet d_meet a_arc_of d_arc_of a_given_before d_given_before a_units_before d_units_before a_greater_arc d_greater_arc a_lesser_number d_lesser_number a_outside d_outside a_allowed_units d_allowed_units a_left_units d_left_units a_M_entries d_M_entries a_M_statements d_M_statements a_left d_left a_u_law_near d_u_law_near a_is_cut d_is_cut a_check_cut d_check_cut a_check_stretch d_check_stretch a_floor_of d_floor_of a_plus d_plus a_check_day d_check_day a_sum_before d_sum_before a_total_by d_total_by a_told d_told a_parts_of d_parts_of a_numbers d_numbers a_u_law_right d_u_law_right a_law d_law)  :
    FnOkG P w K mg base 1 a_common d_common ["one", "other"] (upF K (pur spec_gcd)) := by
  refine okP (k := 0) T.F_common sc_common (n := 2) rfl ?len (fun cdv A outer s H E hr hgs => (wss_cons (ws_while PassesOwn.never (wt_ne hr (w_var 1) w_int) (wss_one (ws_par (i := 0) (j := 1) rfl sc_common.nd rfl rfl (by decide) rfl rfl (wa_cons (w_var 1) (wa_cons (w_modS (w_var 0) (w_var 1)) wa_nil)) (by rfl))))
      (wss_one (ws_ret (w_bi ok_abs (wa_cons (w_var 0) wa_nil) (fun t h => pe_callB call_abs (by rfl) T.m_abs (by decide +kernel) h)))))) ?body
  case len =>
    rintro args S R ⟨rfl, ds, R0, rfl, h, q⟩
    exact len_gcd h
  case body =>
    rintro args S R ⟨rfl, ds, R0, rfl, h, q⟩
    obtain ⟨a, b, rfl, hR⟩ := h
    refine ⟨fun m ρ S => ∃ x y : Int, ρ = [some (.d (.int x)), some (.d (.int y))] ∧ S = [] ∧ m = y.natAbs ∧ Int.gcd x y = Int.gcd a b, ⟨_, a, b, rfl, rfl, rfl, rfl⟩, ?_⟩
    rintro m _ _ ⟨x, y, rfl, rfl, rfl, hg⟩
    walk_at "w"
    refine brN (fun hy => ?_) (fun hy => ?_)
    · exact ⟨hy, .inl ⟨_, fmod_abs_lt x hy, y, x.fmod y, rfl, rfl, rfl, by rw [gcd_fmod, hg]⟩⟩
    · subst hy
      refine q _ ?_ []
      rw [gcd_end, hg]; exact hR
/-! ### is_ratio -/

theorem ok_is_ratio (T : Top K w mg cC aI dI a_u_law_bag d_u_law_bag a_u_law_take d_u_law_take a_u_law_part d_u_law_part a_u_law_lowest d_u_law_lowest a_u_law_amount d_u_law_amount a_u_law_entry d_u_law_entry a_u_law_entries d_u_law_entries a_u_law_grain d_u_law_grain a_u_law_stretch d_u_law_stretch a_u_law_before d_u_law_before a_u_law_told d_u_law_told a_u_law_statements d_u_law_statements a_u_law_case d_u_law_case a_u_law_days d_u_law_days a_is_integer_kinds d_is_integer_kinds a_is_within d_is_within a_is_day d_is_day a_is_stretch d_is_stretch a_is_integer_ratios d_is_integer_ratios a_common d_common a_is_ratio d_is_ratio a_is_amount d_is_amount a_are_amounts d_are_amounts a_wrong_part d_wrong_part a_check_item d_check_item a_M_numbered d_M_numbered a_M_of_kind d_M_of_kind a_M_add d_M_add a_M_need d_M_need a_M_drop d_M_drop a_u_law_ledger d_u_law_ledger a_lowest d_lowest a_grain_of d_grain_of a_as_ratios d_as_ratios a_meet d_meet a_arc_of d_arc_of a_given_before d_given_before a_units_before d_units_before a_greater_arc d_greater_arc a_lesser_number d_lesser_number a_outside d_outside a_allowed_units d_allowed_units a_left_units d_left_units a_M_entries d_M_entries a_M_statements d_M_statements a_left d_left a_u_law_near d_u_law_near a_is_cut d_is_cut a_check_cut d_check_cut a_check_stretch d_check_stretch a_floor_of d_floor_of a_plus d_plus a_check_day d_check_day a_sum_before d_sum_before a_total_by d_total_by a_told d_told a_parts_of d_parts_of a_numbers d_numbers a_u_law_right d_u_law_right a_law d_law) (G_is_integer_ratios : FnOkG P w K mg base 1 a_is_integer_ratios d_is_integer_ratios ["thing"] (upF K (pur spec_is_integer))) (G_common : FnOkG P w K mg base 1 a_common d_common ["one", "other"] (upF K (pur spec_gcd))) :
    FnOkG P w K mg base 2 a_is_ratio d_is_ratio ["thing"] (upF K (pur spec_is_ratio)) := by
  refine okP (k := 1) T.F_is_ratio sc_is_ratio (n := 3) rfl ?len (fun cdv A outer s H E hr hgs => (wss_cons (ws_if (WW.wt (ww_or (wt_not (w_val (w_isi .tuple (by rfl) T.m_isinstance (by rfl) T.m_tuple (by decide +kernel) (w_var 0) (fun t h => pe_callB call_isi (by rfl) T.m_isinstance (by decide +kernel) (pa_cons h (pa_cons (pe_bltn (v := .ty "tuple") (by rfl) T.m_tuple (by decide +kernel) rfl) pa_nil)))))) (ww_or1 (wt_ne hr (w_bi ok_len (wa_cons (w_var 0) wa_nil) (fun t h => pe_callB (call_len_seq.or call_len_str) (by rfl) T.m_len (by decide +kernel) h)) w_int)))) (wss_one (ws_ret w_bl)) wss_nil)
      (wss_cons (ws_asg (w_var 0) (wg_tup (n := 2) rfl (wgs_cons (wg_name (i := 1) sc_is_ratio.nd rfl (.inl rfl)) (wgs_cons (wg_name (i := 2) sc_is_ratio.nd rfl (.inl rfl)) wgs_nil))))
      (wss_one (ws_ret (we_and (w_call G_is_integer_ratios hr hgs (by rfl) T.g_is_integer_ratios T.F_is_integer_ratios.kp T.b_is_integer_ratios (wa_cons (w_var 1) wa_nil)) (we_and (w_call G_is_integer_ratios hr hgs (by rfl) T.g_is_integer_ratios T.F_is_integer_ratios.kp T.b_is_integer_ratios (wa_cons (w_var 2) wa_nil)) (we_and (w_gt (w_var 2) w_int) (we_one (w_eq hr (w_call G_common hr hgs (by rfl) T.g_common T.F_common.kp T.b_common (wa_cons (w_var 1) (wa_cons (w_var 2) wa_nil))) w_int)))))))))) ?body
  case len =>
    rintro args S R ⟨rfl, ds, R0, rfl, h, q⟩
    exact len_is_ratio h
  case body =>
    rintro args S R ⟨rfl, ds, R0, rfl, h, q⟩
    obtain ⟨d, rfl, hR⟩ := h
    cases d with
    | tuple xs =>
      walk_at "w"
      refine brN (fun hl => ?_) (fun hl => ?_)
      · refine q _ ?_ []
        match xs, hR, hl with
        | [], hR, _ => exact hR
        | [_], hR, _ => simp only [ratioB] at hR; exact hR
        | [_, _], _, hl => exact absurd rfl hl
        | _ :: _ :: _ :: _, hR, _ => simp only [ratioB] at hR; exact hR
      match xs, hR, hl with
      | [x, y], hR, _ =>
        refine lenI ?_
        refine ⟨x, rfl, ?_⟩
        cases x with
        | int t =>
          refine ⟨y, rfl, ?_⟩
          cases y with
          | int u =>
            walk_at "w"
            refine brB (fun h => ?_) (fun h => ?_)
            · refine ⟨t, u, rfl, ?_⟩
              simp only [ratioB, h, Bool.true_and] at hR
              exact q _ hR []
            · simp only [ratioB, h, Bool.false_and] at hR
              exact q _ hR []
          | _ => exact q _ hR []
        | _ => exact q _ hR []
      | [], _, hl => simp at hl
      | [_], _, hl => simp at hl
      | _ :: _ :: _ :: _, _, hl => simp only [List.length_cons] at hl; omega
    | _ => exact q _ hR []
/-! ### ledgers -/
inductive It where
  | e (x : Ent) | s (x : Sta)
@[reducible] def itmD : It → PyData
  | .e x => entD x
  | .s x => staD x
def ItOk : It → Prop
  | .e x => EntOk x
  | .s x => StaOk x
def kindD : It → Str
  | .e _ => "entry"
  | .s _ => "statement"
abbrev Led := List (Int × It)
def itsL (l : Led) : List (Int × PyData) := l.map fun p => (p.1, itmD p.2)
def ents (l : Led) : List Ent := l.filterMap fun p => match p.2 with
  | .e x => some x
  | .s _ => none
def stas (l : Led) : List Sta := l.filterMap fun p => match p.2 with
  | .e _ => none
  | .s x => some x
theorem ents_e (k : Int) (x : Ent) (l : Led) : ents ((k, .e x) :: l) = x :: ents l := rfl
theorem ents_s (k : Int) (x : Sta) (l : Led) : ents ((k, .s x) :: l) = ents l := rfl
theorem stas_e (k : Int) (x : Ent) (l : Led) : stas ((k, .e x) :: l) = stas l := rfl
theorem stas_s (k : Int) (x : Sta) (l : Led) : stas ((k, .s x) :: l) = x :: stas l := rfl
structure LedOk (l : Led) (n : Int) : Prop where
  asc : (l.map (·.1)).Pairwise (· < ·)
  n0 : 0 ≤ n
  low : ∀ p ∈ l, 0 ≤ p.1 ∧ p.1 < n
  ok : ∀ p ∈ l, ItOk p.2
  ne : (ents l).length ≤ 6
  ns : (stas l).length ≤ 24
theorem LedOk.nil : LedOk [] 0 := ⟨List.Pairwise.nil, Int.le_refl _, fun p hp => (by cases hp), fun p hp => (by cases hp), by decide, by decide⟩
theorem itsL_keys (l : Led) : (itsL l).map (·.1) = l.map (·.1) := by
  unfold itsL; rw [List.map_map]; rfl
theorem led_len : ∀ l : Led, l.length = (ents l).length + (stas l).length
  | [] => rfl
  | (k, .e x) :: l => by
    have := led_len l
    rw [ents_e, stas_e, List.length_cons, List.length_cons, this]; omega
  | (k, .s x) :: l => by
    have := led_len l
    rw [ents_s, stas_s, List.length_cons, List.length_cons, this]; omega
theorem LedOk.len {l : Led} {n : Int} (h : LedOk l n) : l.length ≤ 30 := by
  have := led_len l; have := h.ne; have := h.ns; omega
theorem mem_ents {l : Led} {x : Ent} : x ∈ ents l ↔ ∃ k, (k, It.e x) ∈ l := by
  unfold ents
  rw [List.mem_filterMap]
  constructor
  · rintro ⟨⟨k, i⟩, hp, e⟩
    cases i with
    | e y => simp only [Option.some.injEq] at e; subst e; exact ⟨k, hp⟩
    | s y => cases e
  · rintro ⟨k, h⟩; exact ⟨_, h, rfl⟩
theorem mem_stas {l : Led} {x : Sta} : x ∈ stas l ↔ ∃ k, (k, It.s x) ∈ l := by
  unfold stas
  rw [List.mem_filterMap]
  constructor
  · rintro ⟨⟨k, i⟩, hp, e⟩
    cases i with
    | e y => cases e
    | s y => simp only [Option.some.injEq] at e; subst e; exact ⟨k, hp⟩
  · rintro ⟨k, h⟩; exact ⟨_, h, rfl⟩
theorem LedOk.entsOk {l : Led} {n : Int} (h : LedOk l n) : ∀ e ∈ ents l, EntOk e := fun e he => by
  obtain ⟨k, hk⟩ := mem_ents.mp he
  exact h.ok _ hk
theorem LedOk.stasOk {l : Led} {n : Int} (h : LedOk l n) : ∀ s ∈ stas l, StaOk s := fun e he => by
  obtain ⟨k, hk⟩ := mem_stas.mp he
  exact h.ok _ hk
/-- the items of a kind -/
def ofKind (z : Str) (l : Led) : List PyData := (l.filter fun p => decide (kindD p.2 = z)).map fun p => itmD p.2
theorem kind_ne : ¬ (("entry" : Str) = "statement") := by decide +kernel
theorem ofKind_e (l : Led) : ofKind "entry" l = (ents l).map entD := by
  induction l with
  | nil => rfl
  | cons p l ih =>
    obtain ⟨k, i⟩ := p
    unfold ofKind at *
    cases i with
    | e x => rw [ents_e, List.filter_cons_of_pos (by simp [kindD]), List.map_cons, List.map_cons, ih]
    | s x => rw [ents_s, List.filter_cons_of_neg (by rw [show kindD (k, It.s x).2 = "statement" from rfl, decide_eq_false (fun h => kind_ne h.symm)]; simp), ih]
theorem ofKind_s (l : Led) : ofKind "statement" l = (stas l).map staD := by
  induction l with
  | nil => rfl
  | cons p l ih =>
    obtain ⟨k, i⟩ := p
    unfold ofKind at *
    cases i with
    | s x => rw [stas_s, List.filter_cons_of_pos (by simp [kindD]), List.map_cons, List.map_cons, ih]
    | e x => rw [stas_e, List.filter_cons_of_neg (by rw [show kindD (k, It.e x).2 = "entry" from rfl, decide_eq_false kind_ne]; simp), ih]
/-- one more item -/
def addL (l : Led) (n : Int) (i : It) : Led := l ++ [(n, i)]
theorem not_has {l : Led} {n : Int} (h : LedOk l n) : hasL (itsL l) n = false := by
  cases e : hasL (itsL l) n with
  | false => rfl
  | true =>
    rw [hasL_iff, itsL_keys, List.mem_map] at e
    obtain ⟨p, hp, e⟩ := e
    have := (h.low p hp).2; omega
theorem put_add {l : Led} {n : Int} (h : LedOk l n) (i : It) : putL (itsL l) n (itmD i) = itsL (addL l n i) := by
  unfold putL
  rw [if_neg (by rw [not_has h]; simp)]
  unfold itsL addL
  rw [List.map_append]; rfl
/-- there is room for it -/
def roomL (l : Led) : It → Prop
  | .e _ => (ents l).length < 6
  | .s _ => (stas l).length < 24
theorem ents_add (l : Led) (n : Int) (i : It) : ents (addL l n i) = ents l ++ (match i with | .e x => [x] | .s _ => []) := by
  unfold ents addL
  rw [List.filterMap_append]
  cases i <;> rfl
theorem stas_add (l : Led) (n : Int) (i : It) : stas (addL l n i) = stas l ++ (match i with | .e _ => [] | .s x => [x]) := by
  unfold stas addL
  rw [List.filterMap_append]
  cases i <;> rfl
theorem LedOk.add {l : Led} {n : Int} {i : It} (h : LedOk l n) (hi : ItOk i) (hr : roomL l i) : LedOk (addL l n i) (n + 1) := by
  have := h.n0
  refine ⟨?_, by omega, fun p hp => ?_, fun p hp => ?_, ?_, ?_⟩
  · unfold addL
    rw [List.map_append, List.pairwise_append]
    refine ⟨h.asc, by simp, fun a ha b hb => ?_⟩
    obtain ⟨p, hp, rfl⟩ := List.mem_map.mp ha
    have := (h.low p hp).2
    simp at hb
    omega
  · rcases List.mem_append.mp hp with hp | hp
    · have := h.low p hp; omega
    · rw [List.mem_singleton] at hp; subst hp; exact ⟨h.n0, by show n < n + 1; omega⟩
  · rcases List.mem_append.mp hp with hp | hp
    · exact h.ok p hp
    · rw [List.mem_singleton] at hp; subst hp; exact hi
  · rw [ents_add, List.length_append]
    have := h.ne
    cases i with
    | e x => have : (ents l).length < 6 := hr; simp; omega
    | s x => simpa using this
  · rw [stas_add, List.length_append]
    have := h.ns
    cases i with
    | s x => have : (stas l).length < 24 := hr; simp; omega
    | e x => simpa using this
/-- without one item -/
def delL (l : Led) (k : Int) : Led := l.filter fun p => decide (p.1 ≠ k)
theorem drop_del (l : Led) (k : Int) : dropL (itsL l) k = itsL (delL l k) := by
  unfold dropL itsL delL
  rw [List.filter_map]
  rfl
theorem delL_add {l : Led} {n : Int} (h : LedOk l n) (i : It) : delL (addL l n i) n = l := by
  unfold delL addL
  rw [List.filter_append, List.filter_eq_self.mpr fun p hp => decide_eq_true (by have := (h.low p hp).2; omega)]
  simp
theorem LedOk.up {l : Led} {n m : Int} (h : LedOk l n) (hm : n ≤ m) : LedOk l m := ⟨h.asc, Int.le_trans h.n0 hm, fun p hp => ⟨(h.low p hp).1, by have := (h.low p hp).2; omega⟩, h.ok, h.ne, h.ns⟩
theorem sub_ents {l l' : Led} (s : List.Sublist l' l) : List.Sublist (ents l') (ents l) := s.filterMap _
theorem sub_stas {l l' : Led} (s : List.Sublist l' l) : List.Sublist (stas l') (stas l) := s.filterMap _
theorem LedOk.sub {l l' : Led} {n : Int} (h : LedOk l n) (s : List.Sublist l' l) : LedOk l' n :=
  ⟨h.asc.sublist (s.map _), h.n0, fun p hp => h.low p (s.subset hp), fun p hp => h.ok p (s.subset hp), Nat.le_trans (sub_ents s).length_le h.ne, Nat.le_trans (sub_stas s).length_le h.ns⟩
theorem LedOk.del {l : Led} {n : Int} (h : LedOk l n) (k : Int) : LedOk (delL l k) n := h.sub List.filter_sublist
theorem valL_at {l : Led} {n k : Int} {i : It} (h : LedOk l n) (hm : (k, i) ∈ l) : valL (itsL l) k = some (itmD i) := by
  have asc := h.asc
  clear h
  induction l with
  | nil => cases hm
  | cons p l ih =>
    have a := List.pairwise_cons.mp asc
    unfold valL itsL at *
    rw [List.map_cons, List.find?_cons]
    rcases List.mem_cons.mp hm with e | hm
    · subst e
      simp
    · have : p.1 < k := a.1 k (List.mem_map.mpr ⟨_, hm, rfl⟩)
      rw [show decide ((p.1, itmD p.2).1 = k) = false from decide_eq_false (by show ¬ p.1 = k; omega)]
      exact ih hm a.2
theorem has_at {l : Led} {k : Int} {i : It} (hm : (k, i) ∈ l) : hasL (itsL l) k = true := by
  rw [hasL_iff, itsL_keys]
  exact List.mem_map.mpr ⟨_, hm, rfl⟩

/-! ### is_amount -/
def spec_is_amount (ds : List PyData) (R : PyData → Prop) : Prop := ∃ r : Int × Int, ds = [ratD r] ∧ AmOk r ∧ R (.bool true)
theorem len_is_amount {ds : List PyData} {R : PyData → Prop} (h : spec_is_amount ds R) : (dA ds).length = 1 := by
  obtain ⟨_, rfl, _⟩ := h; rfl
theorem ratioB_ok {t u : Int} (h : RatOk t u) : ratioB (.tuple [.int t, .int u]) = true := by
  obtain ⟨h1, h2⟩ := h
  unfold ratioB
  simp [h1, h2]
theorem ok_is_amount (T : Top K w mg cC aI dI a_u_law_bag d_u_law_bag a_u_law_take d_u_law_take a_u_law_part d_u_law_part a_u_law_lowest d_u_law_lowest a_u_law_amount d_u_law_amount a_u_law_entry d_u_law_entry a_u_law_entries d_u_law_entries a_u_law_grain d_u_law_grain a_u_law_stretch d_u_law_stretch a_u_law_before d_u_law_before a_u_law_told d_u_law_told a_u_law_statements d_u_law_statements a_u_law_case d_u_law_case a_u_law_days d_u_law_days a_is_integer_kinds d_is_integer_kinds a_is_within d_is_within a_is_day d_is_day a_is_stretch d_is_stretch a_is_integer_ratios d_is_integer_ratios a_common d_common a_is_ratio d_is_ratio a_is_amount d_is_amount a_are_amounts d_are_amounts a_wrong_part d_wrong_part a_check_item d_check_item a_M_numbered d_M_numbered a_M_of_kind d_M_of_kind a_M_add d_M_add a_M_need d_M_need a_M_drop d_M_drop a_u_law_ledger d_u_law_ledger a_lowest d_lowest a_grain_of d_grain_of a_as_ratios d_as_ratios a_meet d_meet a_arc_of d_arc_of a_given_before d_given_before a_units_before d_units_before a_greater_arc d_greater_arc a_lesser_number d_lesser_number a_outside d_outside a_allowed_units d_allowed_units a_left_units d_left_units a_M_entries d_M_entries a_M_statements d_M_statements a_left d_left a_u_law_near d_u_law_near a_is_cut d_is_cut a_check_cut d_check_cut a_check_stretch d_check_stretch a_floor_of d_floor_of a_plus d_plus a_check_day d_check_day a_sum_before d_sum_before a_total_by d_total_by a_told d_told a_parts_of d_parts_of a_numbers d_numbers a_u_law_right d_u_law_right a_law d_law) (G_is_ratio : FnOkG P w K mg base 2 a_is_ratio d_is_ratio ["thing"] (upF K (pur spec_is_ratio))) :
    FnOkG P w K mg base 3 a_is_amount d_is_amount ["thing"] (upF K (pur spec_is_amount)) := by
  refine okP (k := 2) T.F_is_amount sc_is_amount (n := 1) rfl ?len (fun cdv A outer s H E hr hgs => (wss_one (ws_ret (we_and (w_call G_is_ratio hr hgs (by rfl) T.g_is_ratio T.F_is_ratio.kp T.b_is_ratio (wa_cons (w_var 0) wa_nil)) (we_and (w_chain okLe okLe m_I0 (w_neg (w_cst T.w_MOST_PART (by rfl))) (w_ix (w_var 0) w_int (fun _ _ => rfl)) (w_cst T.w_MOST_PART (by rfl)) (fun _ _ _ h1 h2 h3 => pe_chain op_le op_le h1 h2 h3)) (we_one (w_le (w_ix (w_var 0) w_int (fun _ _ => rfl)) (w_cst T.w_MOST_PART (by rfl))))))))) ?body
  case len =>
    rintro args S R ⟨rfl, ds, R0, rfl, h, q⟩
    exact len_is_amount h
  case body =>
    rintro args S R ⟨rfl, ds, R0, rfl, h, q⟩
    obtain ⟨⟨t, u⟩, rfl, ok, hR⟩ := h
    walk_at "n"
    refine ⟨_, rfl, ?_⟩
    have hr : ratioB (ratD (t, u)) = true := ratioB_ok ok.ok
    rw [hr]
    have h1 := ok.top
    have h2 := ok.und
    dsimp only at h1 h2
    walk_at "n"
    rw [decide_eq_true (show (-1000000 : Int) ≤ t by omega)]
    walk_at "n"
    rw [decide_eq_true (show t ≤ (1000000 : Int) by omega)]
    walk_at "n"
    refine q _ ?_ _
    rw [decide_eq_true (show u ≤ (1000000 : Int) by omega)]
    exact hR
/-! ### are_amounts -/
def spec_are_amounts (ds : List PyData) (R : PyData → Prop) : Prop := ∃ am : List (Int × Int), ds = [.tuple (am.map ratD)] ∧ (∀ r ∈ am, AmOk r) ∧ 1 ≤ am.length ∧ am.length ≤ 4 ∧ R (.bool true)
theorem len_are_amounts {ds : List PyData} {R : PyData → Prop} (h : spec_are_amounts ds R) : (dA ds).length = 1 := by
  obtain ⟨_, rfl, _⟩ := h; rfl
theorem mapD_true : ∀ ds : List PyData, mapD (fun _ => .bool true) ds = (List.replicate ds.length true).map PyData.bool
  | [] => rfl
  | d :: ds => by
    have := mapD_true ds
    rw [mapD_eq] at *
    rw [List.map_cons, this]; rfl
theorem allB_true : ∀ n : Nat, Pu.allB (List.replicate n true) = true
  | 0 => rfl
  | n + 1 => by rw [List.replicate_succ]; exact allB_true n
theorem ok_are_amounts (T : Top K w mg cC aI dI a_u_law_bag d_u_law_bag a_u_law_take d_u_law_take a_u_law_part d_u_law_part a_u_law_lowest d_u_law_lowest a_u_law_amount d_u_law_amount a_u_law_entry d_u_law_entry a_u_law_entries d_u_law_entries a_u_law_grain d_u_law_grain a_u_law_stretch d_u_law_stretch a_u_law_before d_u_law_before a_u_law_told d_u_law_told a_u_law_statements d_u_law_statements a_u_law_case d_u_law_case a_u_law_days d_u_law_days a_is_integer_kinds d_is_integer_kinds a_is_within d_is_within a_is_day d_is_day a_is_stretch d_is_stretch a_is_integer_ratios d_is_integer_ratios a_common d_common a_is_ratio d_is_ratio a_is_amount d_is_amount a_are_amounts d_are_amounts a_wrong_part d_wrong_part a_check_item d_check_item a_M_numbered d_M_numbered a_M_of_kind d_M_of_kind a_M_add d_M_add a_M_need d_M_need a_M_drop d_M_drop a_u_law_ledger d_u_law_ledger a_lowest d_lowest a_grain_of d_grain_of a_as_ratios d_as_ratios a_meet d_meet a_arc_of d_arc_of a_given_before d_given_before a_units_before d_units_before a_greater_arc d_greater_arc a_lesser_number d_lesser_number a_outside d_outside a_allowed_units d_allowed_units a_left_units d_left_units a_M_entries d_M_entries a_M_statements d_M_statements a_left d_left a_u_law_near d_u_law_near a_is_cut d_is_cut a_check_cut d_check_cut a_check_stretch d_check_stretch a_floor_of d_floor_of a_plus d_plus a_check_day d_check_day a_sum_before d_sum_before a_total_by d_total_by a_told d_told a_parts_of d_parts_of a_numbers d_numbers a_u_law_right d_u_law_right a_law d_law) (G_is_amount : FnOkG P w K mg base 3 a_is_amount d_is_amount ["thing"] (upF K (pur spec_is_amount))) :
    FnOkG P w K mg base 4 a_are_amounts d_are_amounts ["thing"] (upF K (pur spec_are_amounts)) := by
  refine okP (k := 3) T.F_are_amounts sc_are_amounts (n := 2) rfl ?len (fun cdv A outer s H E hr hgs => (wss_one (ws_ret (we_and (w_isi .tuple (by rfl) T.m_isinstance (by rfl) T.m_tuple (by decide +kernel) (w_var 0) (fun t h => pe_callB call_isi (by rfl) T.m_isinstance (by decide +kernel) (pa_cons h (pa_cons (pe_bltn (v := .ty "tuple") (by rfl) T.m_tuple (by decide +kernel) rfl) pa_nil)))) (we_and (w_chain okLe okLe m_I0 w_int (w_bi ok_len (wa_cons (w_var 0) wa_nil) (fun t h => pe_callB (call_len_seq.or call_len_str) (by rfl) T.m_len (by decide +kernel) h)) (w_cst T.w_MOST_AMOUNTS (by rfl)) (fun _ _ _ h1 h2 h3 => pe_chain op_le op_le h1 h2 h3)) (we_one (w_bi ok_all (wa_cons (w_ne (wn_lc (own := [("one", 1)]) rfl sc_are_amounts.nd (wi_tup (w_var 0)) (blkOk_by (N := ["thing", "one"]) (sc := defScope s_are_amounts) (by decide +kernel)) (by decide) (fun _ _ _ _ _ => (wg_name (i := 1) sc_are_amounts.nd rfl (.inl rfl))) (fun _ _ _ _ _ => wts_nil) (fun _ _ _ _ _ => (w_call G_is_amount hr hgs (by rfl) T.g_is_amount T.F_is_amount.kp T.b_is_amount (wa_cons (w_var 1) wa_nil))))) wa_nil) (fun t h => pe_callB (cr_all rfl) (by rfl) T.m_all (by decide +kernel) h)))))))) ?body
  case len =>
    rintro args S R ⟨rfl, ds, R0, rfl, h, q⟩
    exact len_are_amounts h
  case body =>
    rintro args S R ⟨rfl, ds, R0, rfl, h, q⟩
    obtain ⟨am, rfl, ok, l1, l4, hR⟩ := h
    walk_at "n"
    rw [decide_eq_true (show (1 : Int) ≤ ((am.map ratD).length : Nat) by rw [List.length_map]; omega)]
    walk_at "n"
    rw [decide_eq_true (show ((am.map ratD).length : Nat) ≤ (4 : Int) by rw [List.length_map]; omega)]
    walk_at "n"
    refine lcb_map (fun _ => .bool true) (by rw [List.length_map]; exact Nat.le_trans l4 (by decide)) (fun x hx k hk => ?_) ?_
    · obtain ⟨r, hr, rfl⟩ := List.mem_map.mp hx
      walk_at "n"
      exact ⟨r, rfl, ok r hr, hk⟩
    rw [mapD_true]
    walk_at "n"
    rw [Pu.boolsD_map, List.length_map]
    walk_at "n"
    refine q _ ?_ _
    rw [show Pu.allB (List.replicate am.length true) = true from allB_true _]
    exact hR
/-! ### wrong_part -/
def spec_wrong_part (ds : List PyData) (R : PyData → Prop) : Prop := ∃ i : It, ds = [itmD i] ∧ ItOk i ∧ R .none
theorem len_wrong_part {ds : List PyData} {R : PyData → Prop} (h : spec_wrong_part ds R) : (dA ds).length = 1 := by
  obtain ⟨_, rfl, _⟩ := h; rfl
theorem in_e : inD' (.str "entry") [.str "entry", .str "statement"] = true := by decide +kernel
theorem in_s : inD' (.str "statement") [.str "entry", .str "statement"] = true := by decide +kernel
theorem day_ok {f : Int} (h0 : 0 ≤ f) (h1 : f ≤ 10 ^ 30) : withinB (.int f) 0 (10 ^ 30) = true := by
  show (decide (0 ≤ f) && decide (f ≤ 10 ^ 30)) = true
  rw [decide_eq_true h0, decide_eq_true h1]; rfl
theorem stretch_ok {f m : Int} (h0 : 0 ≤ f) (h1 : 1 ≤ m) (h2 : f + m ≤ 10 ^ 30) : stretchB (.tuple [.int f, .int m]) = true := by
  show ((decide (0 ≤ f) && decide (f ≤ 10 ^ 30)) && (decide (1 ≤ m) && decide (m ≤ 10 ^ 30 - f))) = true
  rw [decide_eq_true h0, decide_eq_true (show f ≤ 10 ^ 30 by omega), decide_eq_true h1, decide_eq_true (show m ≤ 10 ^ 30 - f by omega)]; rfl
theorem ok_wrong_part (T : Top K w mg cC aI dI a_u_law_bag d_u_law_bag a_u_law_take d_u_law_take a_u_law_part d_u_law_part a_u_law_lowest d_u_law_lowest a_u_law_amount d_u_law_amount a_u_law_entry d_u_law_entry a_u_law_entries d_u_law_entries a_u_law_grain d_u_law_grain a_u_law_stretch d_u_law_stretch a_u_law_before d_u_law_before a_u_law_told d_u_law_told a_u_law_statements d_u_law_statements a_u_law_case d_u_law_case a_u_law_days d_u_law_days a_is_integer_kinds d_is_integer_kinds a_is_within d_is_within a_is_day d_is_day a_is_stretch d_is_stretch a_is_integer_ratios d_is_integer_ratios a_common d_common a_is_ratio d_is_ratio a_is_amount d_is_amount a_are_amounts d_are_amounts a_wrong_part d_wrong_part a_check_item d_check_item a_M_numbered d_M_numbered a_M_of_kind d_M_of_kind a_M_add d_M_add a_M_need d_M_need a_M_drop d_M_drop a_u_law_ledger d_u_law_ledger a_lowest d_lowest a_grain_of d_grain_of a_as_ratios d_as_ratios a_meet d_meet a_arc_of d_arc_of a_given_before d_given_before a_units_before d_units_before a_greater_arc d_greater_arc a_lesser_number d_lesser_number a_outside d_outside a_allowed_units d_allowed_units a_left_units d_left_units a_M_entries d_M_entries a_M_statements d_M_statements a_left d_left a_u_law_near d_u_law_near a_is_cut d_is_cut a_check_cut d_check_cut a_check_stretch d_check_stretch a_floor_of d_floor_of a_plus d_plus a_check_day d_check_day a_sum_before d_sum_before a_total_by d_total_by a_told d_told a_parts_of d_parts_of a_numbers d_numbers a_u_law_right d_u_law_right a_law d_law) (G_is_day : FnOkG P w K mg base 3 a_is_day d_is_day ["thing"] (upF K (pur spec_is_day))) (G_is_stretch : FnOkG P w K mg base 4 a_is_stretch d_is_stretch ["thing"] (upF K (pur spec_is_stretch))) (G_are_amounts : FnOkG P w K mg base 4 a_are_amounts d_are_amounts ["thing"] (upF K (pur spec_are_amounts))) (G_is_integer_kinds : FnOkG P w K mg base 1 a_is_integer_kinds d_is_integer_kinds ["thing"] (upF K (pur spec_is_integer))) :
    FnOkG P w K mg base 5 a_wrong_part d_wrong_part ["thing"] (upF K (pur spec_wrong_part)) := by
  refine okP (k := 4) T.F_wrong_part sc_wrong_part (n := 6) rfl ?len (fun cdv A outer s H E hr hgs => (wss_consB (ws_if (WW.wt (ww_or (wt_not (w_val (w_isi .tuple (by rfl) T.m_isinstance (by rfl) T.m_tuple (by decide +kernel) (w_var 0) (fun t h => pe_callB call_isi (by rfl) T.m_isinstance (by decide +kernel) (pa_cons h (pa_cons (pe_bltn (v := .ty "tuple") (by rfl) T.m_tuple (by decide +kernel) rfl) pa_nil)))))) (ww_or (wt_ne hr (w_bi ok_len (wa_cons (w_var 0) wa_nil) (fun t h => pe_callB (call_len_seq.or call_len_str) (by rfl) T.m_len (by decide +kernel) h)) w_int) (ww_or1 (wt_not (w_val (w_isi .str (by rfl) T.m_isinstance (by rfl) T.m_str (by decide +kernel) (w_ix (w_var 0) w_int (fun _ _ => rfl)) (fun t h => pe_callB call_isi (by rfl) T.m_isinstance (by decide +kernel) (pa_cons h (pa_cons (pe_bltn (v := .ty "str") (by rfl) T.m_str (by decide +kernel) rfl) pa_nil)))))))))) (wss_one (ws_ret w_int)) wss_nil)
      (wss_consB (ws_asg (w_var 0) (wg_tup (n := 4) rfl (wgs_cons (wg_name (i := 1) sc_wrong_part.nd rfl (.inl rfl)) (wgs_cons (wg_name (i := 2) sc_wrong_part.nd rfl (.inl rfl)) (wgs_cons (wg_name (i := 3) sc_wrong_part.nd rfl (.inl rfl)) (wgs_cons (wg_name (i := 4) sc_wrong_part.nd rfl (.inl rfl)) wgs_nil))))))
      (wss_consB (ws_if (wt_notIn hr (w_var 1) (w_tup (wa_cons (w_cst T.w_ENTRY (by rfl)) (wa_cons (w_cst T.w_STATEMENT (by rfl)) wa_nil)))) (wss_one (ws_ret w_int)) wss_nil)
      (wss_consB (ws_if (wt_not (w_val (w_call G_is_day (hr.mono (by decide)) hgs (by rfl) T.g_is_day T.F_is_day.kp T.b_is_day (wa_cons (w_var 2) wa_nil)))) (wss_one (ws_ret w_int)) wss_nil)
      (wss_consB (ws_if (wt_not (w_val (w_call G_is_stretch hr hgs (by rfl) T.g_is_stretch T.F_is_stretch.kp T.b_is_stretch (wa_cons (w_tup (wa_cons (w_var 2) (wa_cons (w_var 3) wa_nil))) wa_nil)))) (wss_one (ws_ret w_int)) wss_nil)
      (wss_consB (ws_set (i := 5) sc_wrong_part.nd rfl (.inl rfl) (we_ifExp (wt_eq hr (w_var 1) (w_cst T.w_ENTRY (by rfl))) (w_call G_are_amounts hr hgs (by rfl) T.g_are_amounts T.F_are_amounts.kp T.b_are_amounts (wa_cons (w_var 4) wa_nil)) (w_call G_is_integer_kinds (hr.mono (by decide)) hgs (by rfl) T.g_is_integer_kinds T.F_is_integer_kinds.kp T.b_is_integer_kinds (wa_cons (w_var 4) wa_nil))))
      (wss_one (ws_ret (we_ifExp (w_val (w_var 5)) w_non w_int)))))))))) ?body
  case len =>
    rintro args S R ⟨rfl, ds, R0, rfl, h, q⟩
    exact len_wrong_part h
  case body =>
    rintro args S R ⟨rfl, ds, R0, rfl, h, q⟩
    obtain ⟨i, rfl, ok, hR⟩ := h
    cases i with
    | e x =>
      obtain ⟨f, m, am⟩ := x
      have ok : EntOk ⟨f, m, am⟩ := ok
      have f0 : 0 ≤ f := ok.f0
      have m1 : 1 ≤ m := ok.m1
      have fm : f + m ≤ 10 ^ 30 := ok.sum
      walk_at "n"
      split
      · rename_i hc; exact Bool.noConfusion hc
      walk_at "n"
      refine ⟨rfl, rfl, ?_⟩
      rw [in_e]
      walk_at "n"
      refine ⟨_, rfl, ?_⟩
      rw [day_ok f0 (by omega)]
      walk_at "n"
      refine ⟨_, rfl, ?_⟩
      rw [stretch_ok f0 m1 fm]
      walk_at "n"
      refine tie_ ?_
      walk_at "n"
      refine ⟨am, rfl, ok.ams, ok.l1, ok.l4, ?_⟩
      walk_at "n"
      refine tie_ ?_
      walk_at "n"
      exact q _ hR _
    | s x =>
      obtain ⟨f, m, n⟩ := x
      have ok : StaOk ⟨f, m, n⟩ := ok
      have f0 : 0 ≤ f := ok.f0
      have m1 : 1 ≤ m := ok.m1
      have fm : f + m ≤ 10 ^ 30 := ok.sum
      walk_at "n"
      split
      · rename_i hc; exact Bool.noConfusion hc
      walk_at "n"
      refine ⟨rfl, rfl, ?_⟩
      rw [in_s]
      walk_at "n"
      refine ⟨_, rfl, ?_⟩
      rw [day_ok f0 (by omega)]
      walk_at "n"
      refine ⟨_, rfl, ?_⟩
      rw [stretch_ok f0 m1 fm]
      walk_at "n"
      refine tie_ ?_
      walk_at "n"
      refine ⟨_, rfl, ?_⟩
      walk_at "n"
      refine tie_ ?_
      walk_at "n"
      exact q _ hR _
/-! ### check_item -/
def spec_check_item (ds : List PyData) (R : PyData → Prop) : Prop := ∃ i : It, ds = [itmD i] ∧ ItOk i ∧ R .none
theorem len_check_item {ds : List PyData} {R : PyData → Prop} (h : spec_check_item ds R) : (dA ds).length = 1 := by
  obtain ⟨_, rfl, _⟩ := h; rfl
theorem ok_check_item (T : Top K w mg cC aI dI a_u_law_bag d_u_law_bag a_u_law_take d_u_law_take a_u_law_part d_u_law_part a_u_law_lowest d_u_law_lowest a_u_law_amount d_u_law_amount a_u_law_entry d_u_law_entry a_u_law_entries d_u_law_entries a_u_law_grain d_u_law_grain a_u_law_stretch d_u_law_stretch a_u_law_before d_u_law_before a_u_law_told d_u_law_told a_u_law_statements d_u_law_statements a_u_law_case d_u_law_case a_u_law_days d_u_law_days a_is_integer_kinds d_is_integer_kinds a_is_within d_is_within a_is_day d_is_day a_is_stretch d_is_stretch a_is_integer_ratios d_is_integer_ratios a_common d_common a_is_ratio d_is_ratio a_is_amount d_is_amount a_are_amounts d_are_amounts a_wrong_part d_wrong_part a_check_item d_check_item a_M_numbered d_M_numbered a_M_of_kind d_M_of_kind a_M_add d_M_add a_M_need d_M_need a_M_drop d_M_drop a_u_law_ledger d_u_law_ledger a_lowest d_lowest a_grain_of d_grain_of a_as_ratios d_as_ratios a_meet d_meet a_arc_of d_arc_of a_given_before d_given_before a_units_before d_units_before a_greater_arc d_greater_arc a_lesser_number d_lesser_number a_outside d_outside a_allowed_units d_allowed_units a_left_units d_left_units a_M_entries d_M_entries a_M_statements d_M_statements a_left d_left a_u_law_near d_u_law_near a_is_cut d_is_cut a_check_cut d_check_cut a_check_stretch d_check_stretch a_floor_of d_floor_of a_plus d_plus a_check_day d_check_day a_sum_before d_sum_before a_total_by d_total_by a_told d_told a_parts_of d_parts_of a_numbers d_numbers a_u_law_right d_u_law_right a_law d_law) (G_wrong_part : FnOkG P w K mg base 5 a_wrong_part d_wrong_part ["thing"] (upF K (pur spec_wrong_part))) :
    FnOkG P w K mg base 6 a_check_item d_check_item ["thing"] (upF K (pur spec_check_item)) := by
  refine okP (k := 5) T.F_check_item sc_check_item (n := 2) rfl ?len (fun cdv A outer s H E hr hgs => (wss_consB (ws_set (i := 1) sc_check_item.nd rfl (.inl rfl) (w_call G_wrong_part hr hgs (by rfl) T.g_wrong_part T.F_wrong_part.kp T.b_wrong_part (wa_cons (w_var 0) wa_nil)))
      (wss_one (ws_if (wt_notN (w_var 1) w_non) (wss_one ws_never) wss_nil)))) ?body
  case len =>
    rintro args S R ⟨rfl, ds, R0, rfl, h, q⟩
    exact len_check_item h
  case body =>
    rintro args S R ⟨rfl, ds, R0, rfl, h, q⟩
    obtain ⟨i, rfl, ok, hR⟩ := h
    walk_at "n"
    refine ⟨i, rfl, ok, ?_⟩
    walk_at "n"
    exact q _ hR _
/-! ### Ledger.numbered -/
def spec_numbered (lvs : List LV) (R : List PyData → List LV → Prop) : Prop := ∃ (d : Addr) (l : Led) (n : Int), lvs = [.L d (itsL l) n] ∧ LedOk l n ∧ R ((itsL l).map itD) [.L d (itsL l) n]
theorem len_numbered {lvs : List LV} {R : List PyData → List LV → Prop} (h : spec_numbered lvs R) : (pvL 0 lvs).length = 1 := by
  obtain ⟨_, _, _, rfl, _⟩ := h; rfl
theorem ok_M_numbered (T : Top K w mg cC aI dI a_u_law_bag d_u_law_bag a_u_law_take d_u_law_take a_u_law_part d_u_law_part a_u_law_lowest d_u_law_lowest a_u_law_amount d_u_law_amount a_u_law_entry d_u_law_entry a_u_law_entries d_u_law_entries a_u_law_grain d_u_law_grain a_u_law_stretch d_u_law_stretch a_u_law_before d_u_law_before a_u_law_told d_u_law_told a_u_law_statements d_u_law_statements a_u_law_case d_u_law_case a_u_law_days d_u_law_days a_is_integer_kinds d_is_integer_kinds a_is_within d_is_within a_is_day d_is_day a_is_stretch d_is_stretch a_is_integer_ratios d_is_integer_ratios a_common d_common a_is_ratio d_is_ratio a_is_amount d_is_amount a_are_amounts d_are_amounts a_wrong_part d_wrong_part a_check_item d_check_item a_M_numbered d_M_numbered a_M_of_kind d_M_of_kind a_M_add d_M_add a_M_need d_M_need a_M_drop d_M_drop a_u_law_ledger d_u_law_ledger a_lowest d_lowest a_grain_of d_grain_of a_as_ratios d_as_ratios a_meet d_meet a_arc_of d_arc_of a_given_before d_given_before a_units_before d_units_before a_greater_arc d_greater_arc a_lesser_number d_lesser_number a_outside d_outside a_allowed_units d_allowed_units a_left_units d_left_units a_M_entries d_M_entries a_M_statements d_M_statements a_left d_left a_u_law_near d_u_law_near a_is_cut d_is_cut a_check_cut d_check_cut a_check_stretch d_check_stretch a_floor_of d_floor_of a_plus d_plus a_check_day d_check_day a_sum_before d_sum_before a_total_by d_total_by a_told d_told a_parts_of d_parts_of a_numbers d_numbers a_u_law_right d_u_law_right a_law d_law)  :
    FnOkG P w K mg base 1 a_M_numbered d_M_numbered ["self"] (upF K (gN spec_numbered)) := by
  refine okP (k := 0) T.F_M_numbered sc_M_numbered (n := 1) rfl ?len (fun cdv A outer s H E hr hgs => (wss_one (ws_retN (wn_sortItems (w_pres T.L (w_var 0)) (fun t h => pe_callB (cr_sortK rfl) (by rfl) T.m_sorted (by decide +kernel) (pa_cons (pe_bm0 PySem.F.plainAttrs_dict PySem.F.slot_dict_items PySem.F.type_dict_items mt_itemsK h) pa_nil)))))) ?body
  case len =>
    rintro args S R ⟨lvs, R0, rfl, rfl, h, q⟩
    exact len_numbered h
  case body =>
    rintro args S R ⟨lvs, R0, rfl, rfl, h, q⟩
    obtain ⟨d, l, n, rfl, ok, hR⟩ := h
    walk_at "n"
    refine ⟨rfl, by show ((itsL l).map (·.1)).Pairwise (· < ·); rw [itsL_keys]; exact ok.asc, ?_⟩
    walk_at "n"
    exact q _ _ hR 0 [.lst ((itsL l).map itD)] rfl
/-! ### Ledger.of_kind -/
def spec_of_kind (lvs : List LV) (R : List PyData → List LV → Prop) : Prop := ∃ (d : Addr) (l : Led) (n : Int) (z : Str), lvs = [.L d (itsL l) n, .d (.str z)] ∧ LedOk l n ∧ R (ofKind z l) [.L d (itsL l) n, .d (.str z)]
theorem len_of_kind {lvs : List LV} {R : List PyData → List LV → Prop} (h : spec_of_kind lvs R) : (pvL 0 lvs).length = 2 := by
  obtain ⟨_, _, _, _, rfl, _⟩ := h; rfl
def kindP (z : Str) : PyData → Bool
  | .tuple [_, .tuple (.str y :: _)] => decide (y = z)
  | _ => false
def sndD : PyData → PyData
  | .tuple [_, x] => x
  | _ => .none
theorem ofKind_D (z : Str) (l : Led) : (((itsL l).map itD).filter (kindP z)).map sndD = ofKind z l := by
  unfold itsL ofKind
  rw [List.map_map, List.filter_map, List.map_map]
  congr 1
  refine List.filter_congr fun p _ => ?_
  obtain ⟨k, i⟩ := p
  cases i <;> rfl
theorem ok_M_of_kind (T : Top K w mg cC aI dI a_u_law_bag d_u_law_bag a_u_law_take d_u_law_take a_u_law_part d_u_law_part a_u_law_lowest d_u_law_lowest a_u_law_amount d_u_law_amount a_u_law_entry d_u_law_entry a_u_law_entries d_u_law_entries a_u_law_grain d_u_law_grain a_u_law_stretch d_u_law_stretch a_u_law_before d_u_law_before a_u_law_told d_u_law_told a_u_law_statements d_u_law_statements a_u_law_case d_u_law_case a_u_law_days d_u_law_days a_is_integer_kinds d_is_integer_kinds a_is_within d_is_within a_is_day d_is_day a_is_stretch d_is_stretch a_is_integer_ratios d_is_integer_ratios a_common d_common a_is_ratio d_is_ratio a_is_amount d_is_amount a_are_amounts d_are_amounts a_wrong_part d_wrong_part a_check_item d_check_item a_M_numbered d_M_numbered a_M_of_kind d_M_of_kind a_M_add d_M_add a_M_need d_M_need a_M_drop d_M_drop a_u_law_ledger d_u_law_ledger a_lowest d_lowest a_grain_of d_grain_of a_as_ratios d_as_ratios a_meet d_meet a_arc_of d_arc_of a_given_before d_given_before a_units_before d_units_before a_greater_arc d_greater_arc a_lesser_number d_lesser_number a_outside d_outside a_allowed_units d_allowed_units a_left_units d_left_units a_M_entries d_M_entries a_M_statements d_M_statements a_left d_left a_u_law_near d_u_law_near a_is_cut d_is_cut a_check_cut d_check_cut a_check_stretch d_check_stretch a_floor_of d_floor_of a_plus d_plus a_check_day d_check_day a_sum_before d_sum_before a_total_by d_total_by a_told d_told a_parts_of d_parts_of a_numbers d_numbers a_u_law_right d_u_law_right a_law d_law) (G_M_numbered : FnOkG P w K mg base 1 a_M_numbered d_M_numbered ["self"] (upF K (gN spec_numbered))) :
    FnOkG P w K mg base 2 a_M_of_kind d_M_of_kind ["self", "kind"] (upF K (gN spec_of_kind)) := by
  refine okP (k := 1) T.F_M_of_kind sc_M_of_kind (n := 4) rfl ?len (fun cdv A outer s H E hr hgs => (wss_one (ws_retN (wn_lc (own := [("number", 2), ("item", 3)]) rfl sc_M_of_kind.nd (wi_list (w_ne (w_mN0 T.L ⟨by decide +kernel, by decide +kernel⟩ (w_var 0) (fun t h => pe_methG0 h T.L.cl T.me_M_numbered G_M_numbered hr hgs T.b_M_numbered .nil)))) (blkOk_by (N := ["self", "kind", "number", "item"]) (sc := defScope s_M_of_kind) (by decide +kernel)) (by decide) (fun _ _ _ _ _ => (wg_tup (n := 2) rfl (wgs_cons (wg_name (i := 2) sc_M_of_kind.nd rfl (.inl rfl)) (wgs_cons (wg_name (i := 3) sc_M_of_kind.nd rfl (.inl rfl)) wgs_nil)))) (fun _ _ _ _ _ => (wts_one (wt_eq hr (w_ix (w_var 3) w_int (fun _ _ => rfl)) (w_var 1)))) (fun _ _ _ _ _ => (w_var 3)))))) ?body
  case len =>
    rintro args S R ⟨lvs, R0, rfl, rfl, h, q⟩
    exact len_of_kind h
  case body =>
    rintro args S R ⟨lvs, R0, rfl, rfl, h, q⟩
    obtain ⟨d, l, n, z, rfl, ok, hR⟩ := h
    walk_at "n"
    refine ⟨rfl, d, l, n, rfl, ok, ?_⟩
    walk_at "n"
    refine lcb_filter (kindP z) sndD (by rw [List.length_map, itsL, List.length_map]; exact Nat.le_trans ok.len (by decide)) (fun x hx k k0 hk hk0 => ?_) ?_
    · obtain ⟨p, hp, rfl⟩ := List.mem_map.mp hx
      obtain ⟨⟨j, i⟩, hp, rfl⟩ := List.mem_map.mp hp
      try dsimp only [List.map_cons, List.map_nil]
      cases i with
      | e x =>
        walk_at "n"
        refine brD (fun h1 => ?_) (fun h1 => ?_)
        · walk_at "n"
          exact hk (decide_eq_true h1)
        · walk_at "n"
          exact hk0 (decide_eq_false h1)
      | s x =>
        walk_at "n"
        refine brD (fun h1 => ?_) (fun h1 => ?_)
        · walk_at "n"
          exact hk (decide_eq_true h1)
        · walk_at "n"
          exact hk0 (decide_eq_false h1)
    rw [ofKind_D]
    walk_at "n"
    exact q _ _ hR 0 [.lst (ofKind z l)] rfl
/-! ### Ledger.add -/
def spec_add (lvs : List LV) (R : PyData → List LV → Prop) : Prop := ∃ (d : Addr) (l : Led) (n : Int) (i : It), lvs = [.L d (itsL l) n, .d (itmD i)] ∧ LedOk l n ∧ ItOk i ∧ roomL l i ∧ R (.int n) [.L d (itsL (addL l n i)) (n + 1), .d (itmD i)]
theorem len_add {lvs : List LV} {R : PyData → List LV → Prop} (h : spec_add lvs R) : (pvL 0 lvs).length = 2 := by
  obtain ⟨_, _, _, _, rfl, _⟩ := h; rfl
theorem look_e : lookS [(("entry" : Str), 6), (("statement" : Str), 24)] "entry" = some (.int 6) := by unfold lookS; rw [if_pos rfl]
theorem look_s : lookS [(("entry" : Str), 6), (("statement" : Str), 24)] "statement" = some (.int 24) := by unfold lookS; rw [if_neg kind_ne]; unfold lookS; rw [if_pos rfl]
theorem ok_M_add (T : Top K w mg cC aI dI a_u_law_bag d_u_law_bag a_u_law_take d_u_law_take a_u_law_part d_u_law_part a_u_law_lowest d_u_law_lowest a_u_law_amount d_u_law_amount a_u_law_entry d_u_law_entry a_u_law_entries d_u_law_entries a_u_law_grain d_u_law_grain a_u_law_stretch d_u_law_stretch a_u_law_before d_u_law_before a_u_law_told d_u_law_told a_u_law_statements d_u_law_statements a_u_law_case d_u_law_case a_u_law_days d_u_law_days a_is_integer_kinds d_is_integer_kinds a_is_within d_is_within a_is_day d_is_day a_is_stretch d_is_stretch a_is_integer_ratios d_is_integer_ratios a_common d_common a_is_ratio d_is_ratio a_is_amount d_is_amount a_are_amounts d_are_amounts a_wrong_part d_wrong_part a_check_item d_check_item a_M_numbered d_M_numbered a_M_of_kind d_M_of_kind a_M_add d_M_add a_M_need d_M_need a_M_drop d_M_drop a_u_law_ledger d_u_law_ledger a_lowest d_lowest a_grain_of d_grain_of a_as_ratios d_as_ratios a_meet d_meet a_arc_of d_arc_of a_given_before d_given_before a_units_before d_units_before a_greater_arc d_greater_arc a_lesser_number d_lesser_number a_outside d_outside a_allowed_units d_allowed_units a_left_units d_left_units a_M_entries d_M_entries a_M_statements d_M_statements a_left d_left a_u_law_near d_u_law_near a_is_cut d_is_cut a_check_cut d_check_cut a_check_stretch d_check_stretch a_floor_of d_floor_of a_plus d_plus a_check_day d_check_day a_sum_before d_sum_before a_total_by d_total_by a_told d_told a_parts_of d_parts_of a_numbers d_numbers a_u_law_right d_u_law_right a_law d_law) (G_check_item : FnOkG P w K mg base 6 a_check_item d_check_item ["thing"] (upF K (pur spec_check_item))) (G_M_of_kind : FnOkG P w K mg base 2 a_M_of_kind d_M_of_kind ["self", "kind"] (upF K (gN spec_of_kind))) :
    FnOkG P w K mg base 7 a_M_add d_M_add ["self", "item"] (upF K (gD spec_add)) := by
  refine okP (k := 6) T.F_M_add sc_M_add (n := 4) rfl ?len (fun cdv A outer s H E hr hgs => (wss_consB (ws_expr (w_call G_check_item hr hgs (by rfl) T.g_check_item T.F_check_item.kp T.b_check_item (wa_cons (w_var 1) wa_nil)))
      (wss_consB (ws_set (i := 2) sc_M_add.nd rfl (.inl rfl) (w_cdict T.w_MOST (by rfl) (w_ix (w_var 1) w_int (fun _ _ => rfl)) (fun _ _ => rfl)))
      (wss_consB (ws_if (wt_ge (w_bi ok_len (wa_cons (w_ne (w_mN T.L ⟨by decide +kernel, by decide +kernel⟩ (w_var 0) T.me_M_of_kind G_M_of_kind (hr.mono (by decide)) hgs T.b_M_of_kind (wa_cons (w_ix (w_var 1) w_int (fun _ _ => rfl)) wa_nil) (fun t u h h2 => pe_methG h T.L.cl T.me_M_of_kind G_M_of_kind (hr.mono (by decide)) hgs T.b_M_of_kind .nil h2))) wa_nil) (fun t h => pe_callB (call_len_seq.or call_len_str) (by rfl) T.m_len (by decide +kernel) h)) (w_var 2)) (wss_one ws_never) wss_nil)
      (wss_consB (ws_set (i := 3) sc_M_add.nd rfl (.inl rfl) (w_com T.L (w_var 0)))
      (wss_consB (ws_dput ⟨_, hr⟩ (w_pres T.L (w_var 0)) (w_var 3) (w_var 1))
      (wss_consB (ws_comAdd T.L (w_var 0) w_int)
      (wss_one (ws_ret (w_var 3)))))))))) ?body
  case len =>
    rintro args S R ⟨lvs, R0, rfl, rfl, h, q⟩
    exact len_add h
  case body =>
    rintro args S R ⟨lvs, R0, rfl, rfl, h, q⟩
    obtain ⟨d, l, n, i, rfl, ok, iok, room, hR⟩ := h
    have hadd := put_add ok i
    have ln := ok.len
    have li : (itsL l).length < 1000 := by unfold itsL; rw [List.length_map]; omega
    walk_at "n"
    refine ⟨i, rfl, iok, ?_⟩
    cases i with
    | e x =>
      walk_at "n"
      refine ix_ok look_e ?_
      walk_at "n"
      refine ⟨rfl, d, l, n, _, rfl, ok, ?_⟩
      rw [ofKind_e]
      walk_at "n"
      refine brF (decide_eq_false (by rw [List.length_map]; have : (ents l).length < 6 := room; omega)) ?_
      walk_at "n"
      refine ⟨rfl, li, ?_⟩
      rw [hadd]
      walk_at "n"
      refine ⟨rfl, rfl, ?_⟩
      walk_at "n"
      exact q _ _ hR []
    | s x =>
      walk_at "n"
      refine ix_ok look_s ?_
      walk_at "n"
      refine ⟨rfl, d, l, n, _, rfl, ok, ?_⟩
      rw [ofKind_s]
      walk_at "n"
      refine brF (decide_eq_false (by rw [List.length_map]; have : (stas l).length < 24 := room; omega)) ?_
      walk_at "n"
      refine ⟨rfl, li, ?_⟩
      rw [hadd]
      walk_at "n"
      refine ⟨rfl, rfl, ?_⟩
      walk_at "n"
      exact q _ _ hR []
/-! ### Ledger.need -/
def spec_need (lvs : List LV) (R : PyData → List LV → Prop) : Prop := ∃ (d : Addr) (l : Led) (n k : Int) (i : It), lvs = [.L d (itsL l) n, .d (.int k)] ∧ (k, i) ∈ l ∧ R .none [.L d (itsL l) n, .d (.int k)]
theorem len_need {lvs : List LV} {R : PyData → List LV → Prop} (h : spec_need lvs R) : (pvL 0 lvs).length = 2 := by
  obtain ⟨_, _, _, _, _, rfl, _⟩ := h; rfl
theorem ok_M_need (T : Top K w mg cC aI dI a_u_law_bag d_u_law_bag a_u_law_take d_u_law_take a_u_law_part d_u_law_part a_u_law_lowest d_u_law_lowest a_u_law_amount d_u_law_amount a_u_law_entry d_u_law_entry a_u_law_entries d_u_law_entries a_u_law_grain d_u_law_grain a_u_law_stretch d_u_law_stretch a_u_law_before d_u_law_before a_u_law_told d_u_law_told a_u_law_statements d_u_law_statements a_u_law_case d_u_law_case a_u_law_days d_u_law_days a_is_integer_kinds d_is_integer_kinds a_is_within d_is_within a_is_day d_is_day a_is_stretch d_is_stretch a_is_integer_ratios d_is_integer_ratios a_common d_common a_is_ratio d_is_ratio a_is_amount d_is_amount a_are_amounts d_are_amounts a_wrong_part d_wrong_part a_check_item d_check_item a_M_numbered d_M_numbered a_M_of_kind d_M_of_kind a_M_add d_M_add a_M_need d_M_need a_M_drop d_M_drop a_u_law_ledger d_u_law_ledger a_lowest d_lowest a_grain_of d_grain_of a_as_ratios d_as_ratios a_meet d_meet a_arc_of d_arc_of a_given_before d_given_before a_units_before d_units_before a_greater_arc d_greater_arc a_lesser_number d_lesser_number a_outside d_outside a_allowed_units d_allowed_units a_left_units d_left_units a_M_entries d_M_entries a_M_statements d_M_statements a_left d_left a_u_law_near d_u_law_near a_is_cut d_is_cut a_check_cut d_check_cut a_check_stretch d_check_stretch a_floor_of d_floor_of a_plus d_plus a_check_day d_check_day a_sum_before d_sum_before a_total_by d_total_by a_told d_told a_parts_of d_parts_of a_numbers d_numbers a_u_law_right d_u_law_right a_law d_law) (G_is_integer_kinds : FnOkG P w K mg base 1 a_is_integer_kinds d_is_integer_kinds ["thing"] (upF K (pur spec_is_integer))) :
    FnOkG P w K mg base 2 a_M_need d_M_need ["self", "number"] (upF K (gD spec_need)) := by
  refine okP (k := 1) T.F_M_need sc_M_need (n := 2) rfl ?len (fun cdv A outer s H E hr hgs => (wss_one (ws_if (WW.wt (ww_or (wt_not (w_val (w_call G_is_integer_kinds hr hgs (by rfl) T.g_is_integer_kinds T.F_is_integer_kinds.kp T.b_is_integer_kinds (wa_cons (w_var 1) wa_nil)))) (ww_or1 (wt_notInD ⟨_, hr⟩ (w_var 1) (w_pres T.L (w_var 0)))))) (wss_one ws_never) wss_nil))) ?body
  case len =>
    rintro args S R ⟨lvs, R0, rfl, rfl, h, q⟩
    exact len_need h
  case body =>
    rintro args S R ⟨lvs, R0, rfl, rfl, h, q⟩
    obtain ⟨d, l, n, k, i, rfl, hm, hR⟩ := h
    have hh := has_at hm
    walk_at "n"
    refine ⟨_, rfl, ?_⟩
    walk_at "n"
    refine ⟨rfl, ?_⟩
    walk_at "n"
    rw [hh]
    walk_at "n"
    exact q _ _ hR []
/-! ### Ledger.drop -/
def spec_drop (lvs : List LV) (R : PyData → List LV → Prop) : Prop := ∃ (d : Addr) (l : Led) (n k : Int) (i : It), lvs = [.L d (itsL l) n, .d (.int k)] ∧ LedOk l n ∧ (k, i) ∈ l ∧ R (itmD i) [.L d (itsL (delL l k)) n, .d (.int k)]
theorem len_drop {lvs : List LV} {R : PyData → List LV → Prop} (h : spec_drop lvs R) : (pvL 0 lvs).length = 2 := by
  obtain ⟨_, _, _, _, _, rfl, _⟩ := h; rfl
theorem ok_M_drop (T : Top K w mg cC aI dI a_u_law_bag d_u_law_bag a_u_law_take d_u_law_take a_u_law_part d_u_law_part a_u_law_lowest d_u_law_lowest a_u_law_amount d_u_law_amount a_u_law_entry d_u_law_entry a_u_law_entries d_u_law_entries a_u_law_grain d_u_law_grain a_u_law_stretch d_u_law_stretch a_u_law_before d_u_law_before a_u_law_told d_u_law_told a_u_law_statements d_u_law_statements a_u_law_case d_u_law_case a_u_law_days d_u_law_days a_is_integer_kinds d_is_integer_kinds a_is_within d_is_within a_is_day d_is_day a_is_stretch d_is_stretch a_is_integer_ratios d_is_integer_ratios a_common d_common a_is_ratio d_is_ratio a_is_amount d_is_amount a_are_amounts d_are_amounts a_wrong_part d_wrong_part a_check_item d_check_item a_M_numbered d_M_numbered a_M_of_kind d_M_of_kind a_M_add d_M_add a_M_need d_M_need a_M_drop d_M_drop a_u_law_ledger d_u_law_ledger a_lowest d_lowest a_grain_of d_grain_of a_as_ratios d_as_ratios a_meet d_meet a_arc_of d_arc_of a_given_before d_given_before a_units_before d_units_before a_greater_arc d_greater_arc a_lesser_number d_lesser_number a_outside d_outside a_allowed_units d_allowed_units a_left_units d_left_units a_M_entries d_M_entries a_M_statements d_M_statements a_left d_left a_u_law_near d_u_law_near a_is_cut d_is_cut a_check_cut d_check_cut a_check_stretch d_check_stretch a_floor_of d_floor_of a_plus d_plus a_check_day d_check_day a_sum_before d_sum_before a_total_by d_total_by a_told d_told a_parts_of d_parts_of a_numbers d_numbers a_u_law_right d_u_law_right a_law d_law) (G_M_need : FnOkG P w K mg base 2 a_M_need d_M_need ["self", "number"] (upF K (gD spec_need))) :
    FnOkG P w K mg base 3 a_M_drop d_M_drop ["self", "number"] (upF K (gD spec_drop)) := by
  refine okP (k := 2) T.F_M_drop sc_M_drop (n := 2) rfl ?len (fun cdv A outer s H E hr hgs => (wss_consB (ws_expr (w_mD T.L ⟨by decide +kernel, by decide +kernel⟩ (w_var 0) T.me_M_need G_M_need hr hgs T.b_M_need (wa_cons (w_var 1) wa_nil) (fun t u h h2 => pe_methG h T.L.cl T.me_M_need G_M_need hr hgs T.b_M_need .nil h2)))
      (wss_one (ws_ret (w_dpop (w_pres T.L (w_var 0)) (w_var 1)))))) ?body
  case len =>
    rintro args S R ⟨lvs, R0, rfl, rfl, h, q⟩
    exact len_drop h
  case body =>
    rintro args S R ⟨lvs, R0, rfl, rfl, h, q⟩
    obtain ⟨d, l, n, k, i, rfl, ok, hm, hR⟩ := h
    walk_at "n"
    refine ⟨rfl, d, l, n, k, i, rfl, hm, ?_⟩
    walk_at "n"
    refine ⟨rfl, ?_⟩
    walk_at "n"
    refine ix_ok (valL_at ok hm) ?_
    rw [drop_del]
    walk_at "n"
    exact q _ _ hR []
/-! ### a ledger of given items, in a drawn order -/
def getE : It → Option Ent
  | .e x => some x
  | .s _ => none
def getS : It → Option Sta
  | .e _ => none
  | .s x => some x
theorem ents_get (l : Led) : ents l = (l.map (·.2)).filterMap getE := by
  unfold ents
  rw [List.filterMap_map]
  rfl
theorem stas_get (l : Led) : stas l = (l.map (·.2)).filterMap getS := by
  unfold stas
  rw [List.filterMap_map]
  rfl
def allIt (es : List Ent) (ss : List Sta) : List It := es.map It.e ++ ss.map It.s
theorem allIt_e (es : List Ent) (ss : List Sta) : (allIt es ss).filterMap getE = es := by
  unfold allIt
  rw [List.filterMap_append, List.filterMap_map, List.filterMap_map]
  have h1 : ∀ es : List Ent, es.filterMap (getE ∘ It.e) = es := fun es => by
    induction es with
    | nil => rfl
    | cons e es ih => show e :: List.filterMap (getE ∘ It.e) es = e :: es; rw [ih]
  have h2 : ∀ ss : List Sta, ss.filterMap (getE ∘ It.s) = [] := fun ss => by
    induction ss with
    | nil => rfl
    | cons e ss ih => rw [List.filterMap_cons_none rfl, ih]
  rw [h1, h2, List.append_nil]
theorem allIt_s (es : List Ent) (ss : List Sta) : (allIt es ss).filterMap getS = ss := by
  unfold allIt
  rw [List.filterMap_append, List.filterMap_map, List.filterMap_map]
  have h1 : ∀ es : List Ent, es.filterMap (getS ∘ It.e) = [] := fun es => by
    induction es with
    | nil => rfl
    | cons e es ih => rw [List.filterMap_cons_none rfl, ih]
  have h2 : ∀ ss : List Sta, ss.filterMap (getS ∘ It.s) = ss := fun ss => by
    induction ss with
    | nil => rfl
    | cons e ss ih => show e :: List.filterMap (getS ∘ It.s) ss = e :: ss; rw [ih]
  rw [h1, h2, List.nil_append]
theorem allIt_D (es : List Ent) (ss : List Sta) : (allIt es ss).map itmD = es.map entD ++ ss.map staD := by
  unfold allIt
  rw [List.map_append, List.map_map, List.map_map]
  rfl
/-- what is in the ledger and what waits -/
structure Queue (es : List Ent) (ss : List Sta) (l : Led) (n : Int) (w : List It) : Prop where
  ok : LedOk l n
  perm : (l.map (·.2) ++ w).Perm (allIt es ss)
theorem Queue.cnt {es : List Ent} {ss : List Sta} {l : Led} {n : Int} {w : List It} (h : Queue es ss l n w) : (ents l).length + (w.filterMap getE).length = es.length ∧ (stas l).length + (w.filterMap getS).length = ss.length := by
  have h1 := (h.perm.filterMap getE).length_eq
  have h2 := (h.perm.filterMap getS).length_eq
  rw [List.filterMap_append, List.length_append, ← ents_get, allIt_e] at h1
  rw [List.filterMap_append, List.length_append, ← stas_get, allIt_s] at h2
  exact ⟨h1, h2⟩
theorem Queue.mem {es : List Ent} {ss : List Sta} {l : Led} {n : Int} {w : List It} (h : Queue es ss l n w) (he : ∀ e ∈ es, EntOk e) (hs : ∀ s ∈ ss, StaOk s) : ∀ i ∈ w, ItOk i := fun i hi => by
  have := h.perm.subset (List.mem_append_right _ hi)
  unfold allIt at this
  rcases List.mem_append.mp this with z | z
  · obtain ⟨e, y, rfl⟩ := List.mem_map.mp z; exact he e y
  · obtain ⟨s, y, rfl⟩ := List.mem_map.mp z; exact hs s y
theorem Queue.room {es : List Ent} {ss : List Sta} {l : Led} {n : Int} {w : List It} (h : Queue es ss l n w) (he : es.length ≤ 6) (hs : ss.length ≤ 24) {i : It} (hi : i ∈ w) : roomL l i := by
  obtain ⟨c1, c2⟩ := h.cnt
  cases i with
  | e x =>
    have : 0 < (w.filterMap getE).length := List.length_pos_of_mem (List.mem_filterMap.mpr ⟨_, hi, rfl⟩)
    show (ents l).length < 6
    omega
  | s x =>
    have : 0 < (w.filterMap getS).length := List.length_pos_of_mem (List.mem_filterMap.mpr ⟨_, hi, rfl⟩)
    show (stas l).length < 24
    omega
theorem Queue.up {es : List Ent} {ss : List Sta} {l : Led} {n m : Int} {w : List It} (h : Queue es ss l n w) (hm : n ≤ m) : Queue es ss l m w := ⟨h.ok.up hm, h.perm⟩
theorem Queue.next {es : List Ent} {ss : List Sta} {l : Led} {n : Int} {w : List It} (h : Queue es ss l n w) {j : Nat} (hj : j < w.length) (iok : ItOk w[j]) (hr : roomL l w[j]) : Queue es ss (addL l n w[j]) (n + 1) (w.eraseIdx j) := by
  refine ⟨h.ok.add iok hr, ?_⟩
  unfold addL
  rw [List.map_append, List.append_assoc]
  exact ((perm_erase w j hj).append_left _).trans h.perm
theorem Queue.done {es : List Ent} {ss : List Sta} {l : Led} {n : Int} (h : Queue es ss l n []) : (ents l).Perm es ∧ (stas l).Perm ss := by
  have hp := h.perm
  rw [List.append_nil] at hp
  have h1 := hp.filterMap getE
  have h2 := hp.filterMap getS
  rw [← ents_get, allIt_e] at h1
  rw [← stas_get, allIt_s] at h2
  exact ⟨h1, h2⟩
theorem erase_map {α β : Type} (f : α → β) : ∀ (l : List α) (j : Nat), (l.map f).eraseIdx j = (l.eraseIdx j).map f
  | [], _ => rfl
  | _ :: _, 0 => rfl
  | x :: l, j + 1 => by
    rw [List.map_cons, List.eraseIdx_cons_succ, List.eraseIdx_cons_succ, List.map_cons, erase_map f l j]
theorem lay_itm (i : It) : lay 60 (itmD i) := by
  cases i with
  | e x =>
    refine lay_tup (k := 59) fun y hy => ?_
    simp only [List.mem_cons, List.not_mem_nil, or_false] at hy
    rcases hy with rfl | rfl | rfl | rfl
    · exact ⟨by decide +kernel, Nat.zero_le _⟩
    · exact lay_int _
    · exact lay_int _
    · refine lay_tup (k := 58) fun z hz => ?_
      obtain ⟨r, _, rfl⟩ := List.mem_map.mp hz
      exact lay_rat (k := 57) _ _
  | s x =>
    refine lay_tup (k := 59) fun y hy => ?_
    simp only [List.mem_cons, List.not_mem_nil, or_false] at hy
    rcases hy with rfl | rfl | rfl | rfl
    · exact ⟨by decide +kernel, Nat.zero_le _⟩
    · exact lay_int _
    · exact lay_int _
    · exact lay_int _
theorem before_perm {g d : Int} {es fs : List Ent} (p : es.Perm fs) : before es g d = before fs g d := by
  unfold before
  induction p with
  | nil => rfl
  | cons e _ ih => rw [List.map_cons, List.map_cons, List.sum_cons, List.sum_cons, ih]
  | swap a b l => rw [List.map_cons, List.map_cons, List.map_cons, List.map_cons, List.sum_cons, List.sum_cons, List.sum_cons, List.sum_cons]; omega
  | trans _ _ h1 h2 => rw [h1, h2]
theorem told_perm {g u i j : Int} {es fs : List Ent} (p : es.Perm fs) : toldBy es g u i j = toldBy fs g u i j := by
  unfold toldBy; rw [before_perm p, before_perm p]
theorem sat_perm {g u : Int} {es fs : List Ent} {ss ts : List Sta} (p : es.Perm fs) (q : ss.Perm ts) : Sat es g ss u ↔ Sat fs g ts u := by
  unfold Sat
  constructor
  · exact fun h s hs => by rw [← told_perm p]; exact h s (q.mem_iff.mpr hs)
  · exact fun h s hs => by rw [told_perm p]; exact h s (q.mem_iff.mp hs)
theorem lay_items (l : Led) : lay 62 (.list ((itsL l).map itD)) := lay_list (k := 61) fun x hx => by
  obtain ⟨p, hp, rfl⟩ := List.mem_map.mp hx
  obtain ⟨⟨j, i⟩, _, rfl⟩ := List.mem_map.mp hp
  refine lay_tup (k := 60) fun y hy => ?_
  simp only [List.mem_cons, List.not_mem_nil, or_false] at hy
  rcases hy with rfl | rfl
  · exact lay_int _
  · exact lay_itm i

/-! ### _law_ledger -/
def spec_ledgerL (lvs : List LV) (R : List (Int × PyData) → Int → List LV → Prop) : Prop := ∃ (a b : Int) (es : List Ent) (ss : List Sta), lvs = [.l [.int a, .int b], .d (.list (es.map entD)), .d (.list (ss.map staD))] ∧ BagOk a b ∧ (∀ e ∈ es, EntOk e) ∧ (∀ s ∈ ss, StaOk s) ∧ es.length ≤ 6 ∧ ss.length ≤ 23 ∧
  ∀ (l : Led) (n a' b' : Int), LedOk l n → (ents l).Perm es → (stas l).Perm ss → BagOk a' b' → R (itsL l) n [.l [.int a', .int b'], .d (.list (es.map entD)), .d (.list (ss.map staD))]
theorem len_ledgerL {lvs : List LV} {R : List (Int × PyData) → Int → List LV → Prop} (h : spec_ledgerL lvs R) : (pvL 0 lvs).length = 3 := by
  obtain ⟨_, _, _, _, rfl, _⟩ := h; rfl
theorem ok_u_law_ledger (T : Top K w mg cC aI dI a_u_law_bag d_u_law_bag a_u_law_take d_u_law_take a_u_law_part d_u_law_part a_u_law_lowest d_u_law_lowest a_u_law_amount d_u_law_amount a_u_law_entry d_u_law_entry a_u_law_entries d_u_law_entries a_u_law_grain d_u_law_grain a_u_law_stretch d_u_law_stretch a_u_law_before d_u_law_before a_u_law_told d_u_law_told a_u_law_statements d_u_law_statements a_u_law_case d_u_law_case a_u_law_days d_u_law_days a_is_integer_kinds d_is_integer_kinds a_is_within d_is_within a_is_day d_is_day a_is_stretch d_is_stretch a_is_integer_ratios d_is_integer_ratios a_common d_common a_is_ratio d_is_ratio a_is_amount d_is_amount a_are_amounts d_are_amounts a_wrong_part d_wrong_part a_check_item d_check_item a_M_numbered d_M_numbered a_M_of_kind d_M_of_kind a_M_add d_M_add a_M_need d_M_need a_M_drop d_M_drop a_u_law_ledger d_u_law_ledger a_lowest d_lowest a_grain_of d_grain_of a_as_ratios d_as_ratios a_meet d_meet a_arc_of d_arc_of a_given_before d_given_before a_units_before d_units_before a_greater_arc d_greater_arc a_lesser_number d_lesser_number a_outside d_outside a_allowed_units d_allowed_units a_left_units d_left_units a_M_entries d_M_entries a_M_statements d_M_statements a_left d_left a_u_law_near d_u_law_near a_is_cut d_is_cut a_check_cut d_check_cut a_check_stretch d_check_stretch a_floor_of d_floor_of a_plus d_plus a_check_day d_check_day a_sum_before d_sum_before a_total_by d_total_by a_told d_told a_parts_of d_parts_of a_numbers d_numbers a_u_law_right d_u_law_right a_law d_law) (GI : FnOk P w K mg base CX0 1 aI dI ["self"] (spInit cC)) (G_u_law_take : FnOkG P w K mg base 1 a_u_law_take d_u_law_take ["bag", "size"] (upF K (mutF spec_take))) (G_M_add : FnOkG P w K mg base 7 a_M_add d_M_add ["self", "item"] (upF K (gD spec_add))) (G_M_drop : FnOkG P w K mg base 3 a_M_drop d_M_drop ["self", "number"] (upF K (gD spec_drop))) :
    FnOkG P w K mg base 8 a_u_law_ledger d_u_law_ledger ["bag", "entries", "statements"] (upF K (gL spec_ledgerL)) := by
  refine okP (k := 7) T.F_u_law_ledger sc_u_law_ledger (n := 5) rfl ?len (fun cdv A outer s H E hr hgs => (wss_consB (ws_par (i := 3) (j := 4) rfl sc_u_law_ledger.nd rfl rfl (by decide) rfl rfl (wa_cons (w_mk T.L T.M GI (hr.mono (by decide)) (by rfl) T.mgC T.bI) (wa_cons (w_cell (wn_cat (w_ne (wn_listOf (w_var 1) (fun t h => pe_callTy call_list_of (by rfl) T.m_list (by decide +kernel) (pa_cons h pa_nil)))) (w_ne (wn_listOf (w_var 2) (fun t h => pe_callTy call_list_of (by rfl) T.m_list (by decide +kernel) (pa_cons h pa_nil)))))) wa_nil)) (by rfl))
      (wss_consB (ws_while PassesOwn.never (wt_ne hr (w_var 4) (w_list wa_nil)) (wss_consB (ws_ifJ (wt_eq hr (w_callM G_u_law_take (hr.mono (by decide)) hgs (by rfl) T.g_u_law_take T.F_u_law_take.kp T.b_u_law_take (wa_cons (w_var 0) (wa_cons w_int wa_nil))) w_int) (wss_one (ws_expr (w_mD T.L ⟨by decide +kernel, by decide +kernel⟩ (w_var 3) T.me_M_drop G_M_drop (hr.mono (by decide)) hgs T.b_M_drop (wa_cons (w_mD T.L ⟨by decide +kernel, by decide +kernel⟩ (w_var 3) T.me_M_add G_M_add hr hgs T.b_M_add (wa_cons (w_tup (wa_cons w_str (wa_cons w_int (wa_cons w_int (wa_cons w_int wa_nil))))) wa_nil) (fun t u h h2 => pe_methG h T.L.cl T.me_M_add G_M_add hr hgs T.b_M_add .nil h2)) wa_nil) (fun t u h h2 => pe_methG h T.L.cl T.me_M_drop G_M_drop (hr.mono (by decide)) hgs T.b_M_drop .nil h2)))) wss_nil)
      (wss_one (ws_expr (w_mD T.L ⟨by decide +kernel, by decide +kernel⟩ (w_var 3) T.me_M_add G_M_add hr hgs T.b_M_add (wa_cons (w_popAt (i := 4) (w_callM G_u_law_take (hr.mono (by decide)) hgs (by rfl) T.g_u_law_take T.F_u_law_take.kp T.b_u_law_take (wa_cons (w_var 0) (wa_cons (w_bi ok_len (wa_cons (w_var 4) wa_nil) (fun t h => pe_callB (call_len_seq.or call_len_str) (by rfl) T.m_len (by decide +kernel) h)) wa_nil))) (fun t h => pe_bm PySem.F.plainAttrs_list PySem.F.slot_list_pop PySem.F.type_list_pop mt_popAt (pv 4) (pa_cons h pa_nil))) wa_nil) (fun t u h h2 => pe_methG h T.L.cl T.me_M_add G_M_add hr hgs T.b_M_add .nil h2))))))
      (wss_one (ws_ret (w_var 3)))))) ?body
  case len =>
    rintro args S R ⟨lvs, R0, rfl, rfl, h, q⟩
    exact len_ledgerL h
  case body =>
    rintro args S R ⟨lvs, R0, rfl, rfl, h, q⟩
    obtain ⟨a, b, es, ss, rfl, ok, hes, hss, le, ls, hR⟩ := h
    walk_at "n"
    intro d
    walk_at "n"
    refine ⟨by rw [List.length_map, List.length_map]; exact Nat.le_trans (show _ ≤ 29 by omega) (by decide), ?_⟩
    rw [← allIt_D]
    walk_at "n"
    refine ⟨fun m ρ S => ∃ (a b n : Int) (l : Led) (w : List It), m = w.length ∧ BagOk a b ∧ Queue es ss l n w ∧ ρ = [some (.cel 0), some (.d (.list (es.map entD))), some (.d (.list (ss.map staD))), some (.cel 1), some (.cel 3)] ∧ S = [.lst [.int a, .int b], .led d n, .dic d (itsL l), .lst (w.map itmD)],
      ⟨_, a, b, 0, [], allIt es ss, rfl, ok, ⟨LedOk.nil, .refl _⟩, rfl, rfl⟩, ?_⟩
    rintro m _ _ ⟨a, b, n, l, w, rfl, ok, hq, rfl, rfl⟩
    have hw : w.length ≤ 29 := by
      have := hq.perm.length_eq
      unfold allIt at this
      rw [List.length_append, List.length_append, List.length_map, List.length_map, List.length_map] at this
      omega
    walk_at "n"
    refine ⟨⟨(lay_list (k := 60) fun x hx => ?_).sh (by decide), (lay_rats (k := 0) []).sh⟩, ?_⟩
    · obtain ⟨i, _, rfl⟩ := List.mem_map.mp hx
      exact lay_itm i
    rw [eqv_nil]
    cases w with
    | nil =>
      refine brF rfl ?_
      walk_at "n"
      obtain ⟨p1, p2⟩ := hq.done
      exact q _ _ _ (hR l n a b hq.ok p1 p2 ok) 0 d [.led d n, .dic d (itsL l), .lst []] rfl rfl
    | cons y0 ys =>
      generalize hz : y0 :: ys = w at *
      have w0 : 0 < w.length := by rw [← hz]; simp
      refine brT (by cases w with
        | nil => simp at w0
        | cons _ _ => rfl) ?_
      walk_at "n"
      refine j_ifA (fun ρ' S' => ∃ (a b n : Int), BagOk a b ∧ Queue es ss l n w ∧ ρ' = [some (.cel 0), some (.d (.list (es.map entD))), some (.d (.list (ss.map staD))), some (.cel 1), some (.cel 3)] ∧ S' = [.lst [.int a, .int b], .led d n, .dic d (itsL l), .lst (w.map itmD)]) ?_ ?_
      · intro E' hE
        walk_at "n"
        refine ⟨a, b, 6, rfl, rfl, ok, by decide, by decide, fun r a1 b1 r0 r1 ok1 => ?_⟩
        walk_at "n"
        refine brD (fun h1 => ?_) (fun h1 => ?_)
        · have hroom : roomL l (.s ⟨0, 1, 7⟩) := by
            show (stas l).length < 24
            have := hq.cnt.2
            omega
          have hok : ItOk (.s ⟨0, 1, 7⟩) := ⟨by decide, by decide, by decide, by decide⟩
          have hadd := hq.ok.add hok hroom
          walk_at "n"
          refine ⟨rfl, d, l, n, .s ⟨0, 1, 7⟩, rfl, hq.ok, hok, hroom, ?_⟩
          walk_at "n"
          refine ⟨rfl, d, _, _, n, .s ⟨0, 1, 7⟩, rfl, hadd, by unfold addL; simp, ?_⟩
          rw [delL_add hq.ok]
          walk_at "n"
          exact hE _ _ ⟨a1, b1, n + 1, ok1, hq.up (by omega), rfl, rfl⟩
        · walk_at "n"
          exact hE _ _ ⟨a1, b1, n, ok1, hq, rfl, rfl⟩
      · rintro _ _ ⟨a, b, n, ok, hq, rfl, rfl⟩
        walk_at "n"
        refine ⟨a, b, _, rfl, rfl, ok, by rw [List.length_map]; omega, logP (m := 40) (by rw [List.length_map]; omega), fun r a1 b1 r0 r1 ok1 => ?_⟩
        rw [List.length_map] at r1
        obtain ⟨j, rfl⟩ := Int.eq_ofNat_of_zero_le r0
        have hj : j < w.length := by omega
        refine pop_ok (y := itmD w[j]) (by rw [List.getElem?_map, List.getElem?_eq_getElem hj]; rfl) (by omega) ?_
        rw [erase_map]
        have iok := hq.mem hes hss _ (List.getElem_mem hj)
        have rm := hq.room le (by omega) (List.getElem_mem hj)
        walk_at "n"
        refine ⟨rfl, d, l, n, w[j], rfl, hq.ok, iok, rm, ?_⟩
        walk_at "n"
        refine .inl ⟨_, ?_, a1, b1, n + 1, addL l n w[j], w.eraseIdx j, rfl, ok1, hq.next hj iok rm, rfl, rfl⟩
        rw [List.length_eraseIdx_of_lt hj]
        omega
/-! ### lowest -/

theorem ok_lowest (T : Top K w mg cC aI dI a_u_law_bag d_u_law_bag a_u_law_take d_u_law_take a_u_law_part d_u_law_part a_u_law_lowest d_u_law_lowest a_u_law_amount d_u_law_amount a_u_law_entry d_u_law_entry a_u_law_entries d_u_law_entries a_u_law_grain d_u_law_grain a_u_law_stretch d_u_law_stretch a_u_law_before d_u_law_before a_u_law_told d_u_law_told a_u_law_statements d_u_law_statements a_u_law_case d_u_law_case a_u_law_days d_u_law_days a_is_integer_kinds d_is_integer_kinds a_is_within d_is_within a_is_day d_is_day a_is_stretch d_is_stretch a_is_integer_ratios d_is_integer_ratios a_common d_common a_is_ratio d_is_ratio a_is_amount d_is_amount a_are_amounts d_are_amounts a_wrong_part d_wrong_part a_check_item d_check_item a_M_numbered d_M_numbered a_M_of_kind d_M_of_kind a_M_add d_M_add a_M_need d_M_need a_M_drop d_M_drop a_u_law_ledger d_u_law_ledger a_lowest d_lowest a_grain_of d_grain_of a_as_ratios d_as_ratios a_meet d_meet a_arc_of d_arc_of a_given_before d_given_before a_units_before d_units_before a_greater_arc d_greater_arc a_lesser_number d_lesser_number a_outside d_outside a_allowed_units d_allowed_units a_left_units d_left_units a_M_entries d_M_entries a_M_statements d_M_statements a_left d_left a_u_law_near d_u_law_near a_is_cut d_is_cut a_check_cut d_check_cut a_check_stretch d_check_stretch a_floor_of d_floor_of a_plus d_plus a_check_day d_check_day a_sum_before d_sum_before a_total_by d_total_by a_told d_told a_parts_of d_parts_of a_numbers d_numbers a_u_law_right d_u_law_right a_law d_law) (G_common : FnOkG P w K mg base 1 a_common d_common ["one", "other"] (upF K (pur spec_gcd))) :
    FnOkG P w K mg base 2 a_lowest d_lowest ["top", "under"] (upF K (pur spec_low)) := by
  refine okP (k := 1) T.F_lowest sc_lowest (n := 3) rfl ?len (fun cdv A outer s H E hr hgs => (wss_cons (ws_set (i := 2) sc_lowest.nd rfl (.inl rfl) (w_call G_common hr hgs (by rfl) T.g_common T.F_common.kp T.b_common (wa_cons (w_var 0) (wa_cons (w_var 1) wa_nil))))
      (wss_cons (ws_ifJ (wt_lt (w_var 1) w_int) (wss_one (ws_set (i := 2) sc_lowest.nd rfl (.inl rfl) (w_neg (w_var 2)))) wss_nil)
      (wss_one (ws_ret (w_tup (wa_cons (w_fdivS (w_var 0) (w_var 2)) (wa_cons (w_fdivS (w_var 1) (w_var 2)) wa_nil)))))))) ?body
  case len =>
    rintro args S R ⟨rfl, ds, R0, rfl, h, q⟩
    exact len_low h
  case body =>
    rintro args S R ⟨rfl, ds, R0, rfl, h, q⟩
    obtain ⟨t, u, rfl, h0, hb, hR⟩ := h
    refine ⟨t, u, rfl, ?_⟩
    walk_at "w"
    refine j_if (fun ρ S => ρ = [some (.d (.int t)), some (.d (.int u)), some (.d (.int (sgd t u)))] ∧ S = []) ?_ ?_
    · by_cases hu : u < 0
      · exact ⟨_, _, ⟨by rw [show sgd t u = -((Int.gcd t u : Nat) : Int) from if_pos hu], rfl⟩, fun E' h => brT (decide_eq_true hu) h⟩
      · exact ⟨_, _, ⟨by rw [show sgd t u = ((Int.gcd t u : Nat) : Int) from if_neg hu], rfl⟩, fun E' h => brF (decide_eq_false hu) h⟩
    rintro _ _ ⟨rfl, rfl⟩
    have hs := sgd_ok (t := t) h0 hb
    exact ⟨hs, hs, q _ hR []⟩
/-! ### grain_of -/
def spec_grain (ds : List PyData) (R : PyData → Prop) : Prop := ∃ es : List Ent, ds = [.list (es.map entD)] ∧ (∀ e ∈ es, EntOk e) ∧ es.length ≤ 8 ∧ R (.int (grain es))
theorem len_grain {ds : List PyData} {R : PyData → Prop} (h : spec_grain ds R) : (dA ds).length = 1 := by
  obtain ⟨_, rfl, _⟩ := h; rfl
theorem ok_grain_of (T : Top K w mg cC aI dI a_u_law_bag d_u_law_bag a_u_law_take d_u_law_take a_u_law_part d_u_law_part a_u_law_lowest d_u_law_lowest a_u_law_amount d_u_law_amount a_u_law_entry d_u_law_entry a_u_law_entries d_u_law_entries a_u_law_grain d_u_law_grain a_u_law_stretch d_u_law_stretch a_u_law_before d_u_law_before a_u_law_told d_u_law_told a_u_law_statements d_u_law_statements a_u_law_case d_u_law_case a_u_law_days d_u_law_days a_is_integer_kinds d_is_integer_kinds a_is_within d_is_within a_is_day d_is_day a_is_stretch d_is_stretch a_is_integer_ratios d_is_integer_ratios a_common d_common a_is_ratio d_is_ratio a_is_amount d_is_amount a_are_amounts d_are_amounts a_wrong_part d_wrong_part a_check_item d_check_item a_M_numbered d_M_numbered a_M_of_kind d_M_of_kind a_M_add d_M_add a_M_need d_M_need a_M_drop d_M_drop a_u_law_ledger d_u_law_ledger a_lowest d_lowest a_grain_of d_grain_of a_as_ratios d_as_ratios a_meet d_meet a_arc_of d_arc_of a_given_before d_given_before a_units_before d_units_before a_greater_arc d_greater_arc a_lesser_number d_lesser_number a_outside d_outside a_allowed_units d_allowed_units a_left_units d_left_units a_M_entries d_M_entries a_M_statements d_M_statements a_left d_left a_u_law_near d_u_law_near a_is_cut d_is_cut a_check_cut d_check_cut a_check_stretch d_check_stretch a_floor_of d_floor_of a_plus d_plus a_check_day d_check_day a_sum_before d_sum_before a_total_by d_total_by a_told d_told a_parts_of d_parts_of a_numbers d_numbers a_u_law_right d_u_law_right a_law d_law) (G_lowest : FnOkG P w K mg base 2 a_lowest d_lowest ["top", "under"] (upF K (pur spec_low))) :
    FnOkG P w K mg base 3 a_grain_of d_grain_of ["entries"] (upF K (pur spec_grain)) := by
  refine okP (k := 2) T.F_grain_of sc_grain_of (n := 8) rfl ?len (fun cdv A outer s H E hr hgs => (wss_consB (ws_set (i := 1) sc_grain_of.nd rfl (.inl rfl) w_int)
      (wss_consB (ws_for PassesOwn.never rfl (wi_list (w_var 0)) (wg_tup (n := 4) rfl (wgs_cons (wg_name (i := 2) sc_grain_of.nd rfl (.inl rfl)) (wgs_cons (wg_name (i := 3) sc_grain_of.nd rfl (.inl rfl)) (wgs_cons (wg_name (i := 4) sc_grain_of.nd rfl (.inl rfl)) (wgs_cons (wg_name (i := 5) sc_grain_of.nd rfl (.inl rfl)) wgs_nil))))) (wss_one (ws_for PassesOwn.never rfl (wi_tup (w_var 5)) (wg_tup (n := 2) rfl (wgs_cons (wg_name (i := 6) sc_grain_of.nd rfl (.inl rfl)) (wgs_cons (wg_name (i := 7) sc_grain_of.nd rfl (.inl rfl)) wgs_nil))) (wss_one (ws_augMul (i := 1) sc_grain_of.nd rfl (.inl rfl) (w_ix (w_call G_lowest hr hgs (by rfl) T.g_lowest T.F_lowest.kp T.b_lowest (wa_cons (w_var 1) (wa_cons (w_var 7) wa_nil))) w_int (fun _ _ => rfl)))))))
      (wss_one (ws_ret (w_var 1)))))) ?body
  case len =>
    rintro args S R ⟨rfl, ds, R0, rfl, h, q⟩
    exact len_grain h
  case body =>
    rintro args S R ⟨rfl, ds, R0, rfl, h, q⟩
    obtain ⟨es, rfl, hes, hl, hR⟩ := h
    walk_at "n"
    refine ⟨fun i ρ S => ∃ (g : Int) (o1 o2 o3 o4 o5 o6 : Option PV), ρ = [some (.d (.list (es.map entD))), some (.d (.int g)), o1, o2, o3, o4, o5, o6] ∧ S = [] ∧ g = grain (es.take i), ⟨1, _, _, _, _, _, _, rfl, rfl, rfl⟩, ?_, ?_⟩
    · rintro i d _ _ hd ⟨g, o1, o2, o3, o4, o5, o6, rfl, rfl, hg⟩
      rw [List.getElem?_map, Option.map_eq_some_iff] at hd
      obtain ⟨e, he, rfl⟩ := hd
      have hm := List.mem_of_getElem? he
      walk_at "n"
      have ok := hes e hm
      have htk : grain (es.take (i + 1)) = gr1 (grain (es.take i)) e.am := by
        rw [List.take_add_one, he]
        simp [grain, List.foldl_append]
      have hg0 := grain_ok (es := es.take i) (fun x hx => hes x (List.mem_of_mem_take hx)) (by rw [List.length_take]; omega)
      refine ⟨fun j ρ S => ∃ (g1 : Int) (o1 o2 : Option PV), ρ = [some (.d (.list (es.map entD))), some (.d (.int g1)), some (.d (.str "entry")), some (.d (.int e.first)), some (.d (.int e.many)), some (.d (.tuple (e.am.map ratD))), o1, o2] ∧ S = [] ∧ g1 = gr1 g (e.am.take j), ⟨g, _, _, rfl, rfl, rfl⟩, ?_, ?_⟩
      · rintro j d _ _ hd ⟨g1, p1, p2, rfl, rfl, hg1⟩
        rw [List.getElem?_map, Option.map_eq_some_iff] at hd
        obtain ⟨r, hr, rfl⟩ := hd
        have hrm := List.mem_of_getElem? hr
        have rok := ok.ams r hrm
        have g0 : 0 < g := by rw [hg]; exact hg0.pos
        obtain ⟨a1, a2, a3, a4⟩ := gr1_ok (am := e.am.take j) g0 fun x hx => ok.ams x (List.mem_of_mem_take hx)
        have hs : gr1 g (e.am.take (j + 1)) = lcmZ g1 r.2 := by
          rw [List.take_add_one, hr, hg1]
          simp [gr1, List.foldl_append]
        have b1 : g1.natAbs < 2 ^ 800 := by
          rw [hg1]
          exact gr1_big g0 (by rw [hg]; exact hg0.big) (fun x hx => ok.ams x (List.mem_of_mem_take hx)) (by rw [List.length_take]; have := ok.l4; omega)
        have u0 := rok.ok.1
        obtain ⟨l1, l2, l3, l4, l5⟩ := lcmZ_ok (g := g1) (u := r.2) (by rw [hg1]; exact a1) u0
        walk_at "n"
        refine ⟨g1, r.2, rfl, Int.ne_of_gt u0, Nat.lt_of_le_of_lt (m := 10 ^ 6) (by have := rok.und; omega) (by decide), ?_⟩
        rw [low_pos u0]
        walk_at "n"
        have bq : (r.2 / (Int.gcd g1 r.2 : Nat)).natAbs < 2 ^ 30 := by
          have := Int.ediv_nonneg (Int.le_of_lt u0) (Int.natCast_nonneg (Int.gcd g1 r.2))
          have := rok.und
          have := Int.ediv_le_self ((Int.gcd g1 r.2 : Nat) : Int) (Int.le_of_lt u0)
          omega
        refine ⟨mulP b1 bq, ?_⟩
        walk_at "n"
        exact .inl ⟨_, _, _, rfl, rfl, by rw [hs, l5]⟩
      · rintro _ _ ⟨g1, p1, p2, rfl, rfl, hg1⟩
        walk_at "n"
        exact .inl ⟨_, _, _, _, _, _, _, rfl, rfl, by rw [htk, hg1, ← hg, List.length_map, List.take_length]⟩
    · rintro _ _ ⟨g, o1, o2, o3, o4, o5, o6, rfl, rfl, hg⟩
      walk_at "n"
      rw [List.length_map, List.take_length] at hg
      rw [hg]
      exact q _ hR _
/-! ### as_ratios -/
def spanF (g : Int) : PyData → PyData
  | .tuple [.int a, .int b] => spanD g (a, b)
  | _ => .none
theorem spans_D (g : Int) (x : List (Int × Int)) : mapD (spanF g) (x.map ratD) = x.map (spanD g) := by
  rw [mapD_eq, List.map_map]
  exact List.map_congr_left fun s _ => rfl
def spec_as_ratios (ds : List PyData) (R : List PyData → Prop) : Prop := ∃ (x : List (Int × Int)) (g : Int), ds = [.list (x.map ratD), .int g] ∧ x.length ≤ 1000 ∧ 0 < g ∧ g.natAbs < 2 ^ 700 ∧ R (x.map (spanD g))
theorem len_as_ratios {ds : List PyData} {R : List PyData → Prop} (h : spec_as_ratios ds R) : (dA ds).length = 2 := by
  obtain ⟨_, _, rfl, _⟩ := h; rfl
theorem ok_as_ratios (T : Top K w mg cC aI dI a_u_law_bag d_u_law_bag a_u_law_take d_u_law_take a_u_law_part d_u_law_part a_u_law_lowest d_u_law_lowest a_u_law_amount d_u_law_amount a_u_law_entry d_u_law_entry a_u_law_entries d_u_law_entries a_u_law_grain d_u_law_grain a_u_law_stretch d_u_law_stretch a_u_law_before d_u_law_before a_u_law_told d_u_law_told a_u_law_statements d_u_law_statements a_u_law_case d_u_law_case a_u_law_days d_u_law_days a_is_integer_kinds d_is_integer_kinds a_is_within d_is_within a_is_day d_is_day a_is_stretch d_is_stretch a_is_integer_ratios d_is_integer_ratios a_common d_common a_is_ratio d_is_ratio a_is_amount d_is_amount a_are_amounts d_are_amounts a_wrong_part d_wrong_part a_check_item d_check_item a_M_numbered d_M_numbered a_M_of_kind d_M_of_kind a_M_add d_M_add a_M_need d_M_need a_M_drop d_M_drop a_u_law_ledger d_u_law_ledger a_lowest d_lowest a_grain_of d_grain_of a_as_ratios d_as_ratios a_meet d_meet a_arc_of d_arc_of a_given_before d_given_before a_units_before d_units_before a_greater_arc d_greater_arc a_lesser_number d_lesser_number a_outside d_outside a_allowed_units d_allowed_units a_left_units d_left_units a_M_entries d_M_entries a_M_statements d_M_statements a_left d_left a_u_law_near d_u_law_near a_is_cut d_is_cut a_check_cut d_check_cut a_check_stretch d_check_stretch a_floor_of d_floor_of a_plus d_plus a_check_day d_check_day a_sum_before d_sum_before a_total_by d_total_by a_told d_told a_parts_of d_parts_of a_numbers d_numbers a_u_law_right d_u_law_right a_law d_law) (G_lowest : FnOkG P w K mg base 2 a_lowest d_lowest ["top", "under"] (upF K (pur spec_low))) :
    FnOkG P w K mg base 3 a_as_ratios d_as_ratios ["spans", "grain"] (upF K (newF spec_as_ratios)) := by
  refine okP (k := 2) T.F_as_ratios sc_as_ratios (n := 4) rfl ?len (fun cdv A outer s H E hr hgs => (wss_one (ws_retN (wn_lc (own := [("low", 2), ("high", 3)]) rfl sc_as_ratios.nd (wi_list (w_var 0)) (blkOk_by (N := ["spans", "grain", "low", "high"]) (sc := defScope s_as_ratios) (by decide +kernel)) (by decide) (fun _ _ _ _ _ => (wg_tup (n := 2) rfl (wgs_cons (wg_name (i := 2) sc_as_ratios.nd rfl (.inl rfl)) (wgs_cons (wg_name (i := 3) sc_as_ratios.nd rfl (.inl rfl)) wgs_nil)))) (fun _ _ _ _ _ => wts_nil) (fun _ _ _ _ _ => (w_tup (wa_cons (w_call G_lowest hr hgs (by rfl) T.g_lowest T.F_lowest.kp T.b_lowest (wa_cons (w_var 2) (wa_cons (w_var 1) wa_nil))) (wa_cons (w_call G_lowest hr hgs (by rfl) T.g_lowest T.F_lowest.kp T.b_lowest (wa_cons (w_var 3) (wa_cons (w_var 1) wa_nil))) wa_nil)))))))) ?body
  case len =>
    rintro args S R ⟨rfl, ds, R0, rfl, h, q⟩
    exact len_as_ratios h
  case body =>
    rintro args S R ⟨rfl, ds, R0, rfl, h, q⟩
    obtain ⟨x, g, rfl, hl, hg, hb, hR⟩ := h
    walk_at "n"
    refine lcb_map (spanF g) (by rw [List.length_map]; exact Nat.le_trans hl (by decide)) (fun d hd k hk => ?_) ?_
    · obtain ⟨s, hs, rfl⟩ := List.mem_map.mp hd
      walk_at "n"
      refine ⟨_, _, rfl, Int.ne_of_gt hg, lt_up hb (by decide), ?_⟩
      refine ⟨_, _, rfl, Int.ne_of_gt hg, lt_up hb (by decide), ?_⟩
      walk_at "n"
      exact hk
    rw [spans_D]
    walk_at "n"
    exact q _ hR _ _ rfl
/-! ### meet -/
def spec_meet (ds : List PyData) (R : PyData → Prop) : Prop := ∃ x y : List (Int × Int), ds = [.list (x.map ratD), .list (y.map ratD)] ∧ x.length ≤ 1000 ∧ y.length ≤ 1000 ∧ R (.list ((meetS x y).map ratD))
theorem len_meetD {ds : List PyData} {R : PyData → Prop} (h : spec_meet ds R) : (dA ds).length = 2 := by
  obtain ⟨_, _, rfl, _⟩ := h; rfl
theorem meetS_take {x y : List (Int × Int)} {i : Nat} {s : Int × Int} (h : x[i]? = some s) : meetS (x.take (i + 1)) y = meetS (x.take i) y ++ y.filterMap (inter s) := by
  unfold meetS
  rw [List.take_add_one, h, List.flatMap_append]
  simp
theorem inter_take {y : List (Int × Int)} {j : Nat} {s t : Int × Int} (h : y[j]? = some t) : (y.take (j + 1)).filterMap (inter s) = (y.take j).filterMap (inter s) ++ (match inter s t with
    | some r => [r]
    | none => []) := by
  rw [List.take_add_one, h, List.filterMap_append]
  congr 1
  show List.filterMap (inter s) [t] = _
  cases e : inter s t with
  | none => rw [List.filterMap_cons_none e]; rfl
  | some r => rw [List.filterMap_cons_some e]; rfl
theorem meetS_big (x y : List (Int × Int)) : (meetS x y).length ≤ x.length * y.length := by
  unfold meetS
  induction x with
  | nil => simp
  | cons s x ih =>
    rw [List.flatMap_cons, List.length_append, List.length_cons, Nat.add_mul, Nat.one_mul]
    have := List.length_filterMap_le (inter s) y
    omega
theorem ok_meet (T : Top K w mg cC aI dI a_u_law_bag d_u_law_bag a_u_law_take d_u_law_take a_u_law_part d_u_law_part a_u_law_lowest d_u_law_lowest a_u_law_amount d_u_law_amount a_u_law_entry d_u_law_entry a_u_law_entries d_u_law_entries a_u_law_grain d_u_law_grain a_u_law_stretch d_u_law_stretch a_u_law_before d_u_law_before a_u_law_told d_u_law_told a_u_law_statements d_u_law_statements a_u_law_case d_u_law_case a_u_law_days d_u_law_days a_is_integer_kinds d_is_integer_kinds a_is_within d_is_within a_is_day d_is_day a_is_stretch d_is_stretch a_is_integer_ratios d_is_integer_ratios a_common d_common a_is_ratio d_is_ratio a_is_amount d_is_amount a_are_amounts d_are_amounts a_wrong_part d_wrong_part a_check_item d_check_item a_M_numbered d_M_numbered a_M_of_kind d_M_of_kind a_M_add d_M_add a_M_need d_M_need a_M_drop d_M_drop a_u_law_ledger d_u_law_ledger a_lowest d_lowest a_grain_of d_grain_of a_as_ratios d_as_ratios a_meet d_meet a_arc_of d_arc_of a_given_before d_given_before a_units_before d_units_before a_greater_arc d_greater_arc a_lesser_number d_lesser_number a_outside d_outside a_allowed_units d_allowed_units a_left_units d_left_units a_M_entries d_M_entries a_M_statements d_M_statements a_left d_left a_u_law_near d_u_law_near a_is_cut d_is_cut a_check_cut d_check_cut a_check_stretch d_check_stretch a_floor_of d_floor_of a_plus d_plus a_check_day d_check_day a_sum_before d_sum_before a_total_by d_total_by a_told d_told a_parts_of d_parts_of a_numbers d_numbers a_u_law_right d_u_law_right a_law d_law)  :
    FnOkG P w K mg base 1 a_meet d_meet ["one", "other"] (upF K (pur spec_meet)) := by
  refine okP (k := 0) T.F_meet sc_meet (n := 7) rfl ?len (fun cdv A outer s H E hr hgs => (wss_consB (ws_setN (i := 2) sc_meet.nd rfl (.inl rfl) (wn_list wa_nil))
      (wss_consB (ws_for PassesOwn.never rfl (wi_list (w_var 0)) (wg_tup (n := 2) rfl (wgs_cons (wg_name (i := 3) sc_meet.nd rfl (.inl rfl)) (wgs_cons (wg_name (i := 4) sc_meet.nd rfl (.inl rfl)) wgs_nil))) (wss_one (ws_for PassesOwn.never rfl (wi_list (w_var 1)) (wg_tup (n := 2) rfl (wgs_cons (wg_name (i := 5) sc_meet.nd rfl (.inl rfl)) (wgs_cons (wg_name (i := 6) sc_meet.nd rfl (.inl rfl)) wgs_nil))) (wss_one (ws_ifJ (wt_lt (w_bi ok_max2 (wa_cons (w_var 3) (wa_cons (w_var 5) wa_nil)) (fun t h => pe_callB (call_max2 rfl) (by rfl) T.m_max (by decide +kernel) h)) (w_bi ok_min2 (wa_cons (w_var 4) (wa_cons (w_var 6) wa_nil)) (fun t h => pe_callB (call_min2 rfl) (by rfl) T.m_min (by decide +kernel) h))) (wss_one (ws_expr (w_append (i := 2) (w_tup (wa_cons (w_bi ok_max2 (wa_cons (w_var 3) (wa_cons (w_var 5) wa_nil)) (fun t h => pe_callB (call_max2 rfl) (by rfl) T.m_max (by decide +kernel) h)) (wa_cons (w_bi ok_min2 (wa_cons (w_var 4) (wa_cons (w_var 6) wa_nil)) (fun t h => pe_callB (call_min2 rfl) (by rfl) T.m_min (by decide +kernel) h)) wa_nil))) (fun t h => pe_bm PySem.F.plainAttrs_list PySem.F.slot_list_append PySem.F.type_list_append mt_append (pv 2) (pa_cons h pa_nil))))) wss_nil)))))
      (wss_one (ws_ret (w_fz (w_var 2))))))) ?body
  case len =>
    rintro args S R ⟨rfl, ds, R0, rfl, h, q⟩
    exact len_meetD h
  case body =>
    rintro args S R ⟨rfl, ds, R0, rfl, h, q⟩
    obtain ⟨x, y, rfl, lx, ly, hR⟩ := h
    walk_at "n"
    refine ⟨fun i ρ S => ∃ (o1 o2 o3 o4 : Option PV), ρ = [some (.d (.list (x.map ratD))), some (.d (.list (y.map ratD))), some (.cel 0), o1, o2, o3, o4] ∧ S = [.lst ((meetS (x.take i) y).map ratD)], ⟨_, _, _, _, rfl, rfl⟩, ?_, ?_⟩
    · rintro i d _ _ hd ⟨o1, o2, o3, o4, rfl, rfl⟩
      rw [List.getElem?_map, Option.map_eq_some_iff] at hd
      obtain ⟨s, hs, rfl⟩ := hd
      have ht := meetS_take (y := y) hs
      walk_at "n"
      refine ⟨fun j ρ S => ∃ (p1 p2 : Option PV), ρ = [some (.d (.list (x.map ratD))), some (.d (.list (y.map ratD))), some (.cel 0), some (.d (.int s.1)), some (.d (.int s.2)), p1, p2] ∧ S = [.lst ((meetS (x.take i) y ++ (y.take j).filterMap (inter s)).map ratD)], ⟨_, _, rfl, by rw [List.take_zero, List.filterMap_nil, List.append_nil]⟩, ?_, ?_⟩
      · rintro j d _ _ hd ⟨p1, p2, rfl, rfl⟩
        rw [List.getElem?_map, Option.map_eq_some_iff] at hd
        obtain ⟨t, hj, rfl⟩ := hd
        have hi := inter_take (s := s) hj
        have b1 := meetS_big (x.take i) y
        have b2 := List.length_filterMap_le (inter s) (y.take j)
        have b3 : (x.take i).length * y.length ≤ 1000 * 1000 := Nat.mul_le_mul (by rw [List.length_take]; omega) ly
        have b4 : (y.take j).length ≤ 1000 := by rw [List.length_take]; omega
        walk_at "n"
        refine tifj_ ?_
        walk_at "n"
        refine brD (fun h1 => ?_) (fun h1 => ?_)
        · have e : inter s t = some (mx s.1 t.1, mn s.2 t.2) := inter_some.mpr ⟨h1, rfl⟩
          rw [e] at hi
          walk_at "n"
          refine ⟨by rw [List.length_map, List.length_append]; exact Nat.lt_of_le_of_lt (show _ ≤ 1001000 by omega) (by decide), ?_⟩
          walk_at "n"
          exact .inl ⟨_, _, rfl, by rw [hi, ← List.append_assoc, List.map_append (l₂ := [(mx s.1 t.1, mn s.2 t.2)]), snocD_eq]; rfl⟩
        · have e : inter s t = none := by unfold inter; exact if_neg h1
          rw [e, List.append_nil] at hi
          walk_at "n"
          exact .inl ⟨_, _, rfl, by rw [hi]⟩
      · rintro _ _ ⟨p1, p2, rfl, rfl⟩
        rw [List.length_map, List.take_length]
        walk_at "n"
        exact .inl ⟨_, _, _, _, rfl, by rw [ht]⟩
    · rintro _ _ ⟨o1, o2, o3, o4, rfl, rfl⟩
      rw [List.length_map, List.take_length]
      walk_at "n"
      exact q _ hR _
/-! ### arc_of -/
def spec_arc_of (ds : List PyData) (R : PyData → Prop) : Prop := ∃ p q g : Int, ds = [.int p, .int q, .int g] ∧ R (.list ((arcS p q g).map ratD))
theorem len_arc_of {ds : List PyData} {R : PyData → Prop} (h : spec_arc_of ds R) : (dA ds).length = 3 := by
  obtain ⟨_, _, _, rfl, _⟩ := h; rfl
theorem ok_arc_of (T : Top K w mg cC aI dI a_u_law_bag d_u_law_bag a_u_law_take d_u_law_take a_u_law_part d_u_law_part a_u_law_lowest d_u_law_lowest a_u_law_amount d_u_law_amount a_u_law_entry d_u_law_entry a_u_law_entries d_u_law_entries a_u_law_grain d_u_law_grain a_u_law_stretch d_u_law_stretch a_u_law_before d_u_law_before a_u_law_told d_u_law_told a_u_law_statements d_u_law_statements a_u_law_case d_u_law_case a_u_law_days d_u_law_days a_is_integer_kinds d_is_integer_kinds a_is_within d_is_within a_is_day d_is_day a_is_stretch d_is_stretch a_is_integer_ratios d_is_integer_ratios a_common d_common a_is_ratio d_is_ratio a_is_amount d_is_amount a_are_amounts d_are_amounts a_wrong_part d_wrong_part a_check_item d_check_item a_M_numbered d_M_numbered a_M_of_kind d_M_of_kind a_M_add d_M_add a_M_need d_M_need a_M_drop d_M_drop a_u_law_ledger d_u_law_ledger a_lowest d_lowest a_grain_of d_grain_of a_as_ratios d_as_ratios a_meet d_meet a_arc_of d_arc_of a_given_before d_given_before a_units_before d_units_before a_greater_arc d_greater_arc a_lesser_number d_lesser_number a_outside d_outside a_allowed_units d_allowed_units a_left_units d_left_units a_M_entries d_M_entries a_M_statements d_M_statements a_left d_left a_u_law_near d_u_law_near a_is_cut d_is_cut a_check_cut d_check_cut a_check_stretch d_check_stretch a_floor_of d_floor_of a_plus d_plus a_check_day d_check_day a_sum_before d_sum_before a_total_by d_total_by a_told d_told a_parts_of d_parts_of a_numbers d_numbers a_u_law_right d_u_law_right a_law d_law)  :
    FnOkG P w K mg base 1 a_arc_of d_arc_of ["low", "high", "grain"] (upF K (pur spec_arc_of)) := by
  refine okP (k := 0) T.F_arc_of sc_arc_of (n := 4) rfl ?len (fun cdv A outer s H E hr hgs => (wss_consB (ws_if (wt_le (w_var 0) (w_var 1)) (wss_one (ws_ret (we_ifExp (wt_lt (w_var 0) (w_var 1)) (w_list (wa_cons (w_tup (wa_cons (w_var 0) (wa_cons (w_var 1) wa_nil))) wa_nil)) (w_list wa_nil)))) wss_nil)
      (wss_consB (ws_set (i := 3) sc_arc_of.nd rfl (.inl rfl) (we_ifExp (wt_gt (w_var 1) w_int) (w_list (wa_cons (w_tup (wa_cons w_int (wa_cons (w_var 1) wa_nil))) wa_nil)) (w_list wa_nil)))
      (wss_one (ws_ret (w_add (w_var 3) (w_list (wa_cons (w_tup (wa_cons (w_var 0) (wa_cons (w_var 2) wa_nil))) wa_nil)))))))) ?body
  case len =>
    rintro args S R ⟨rfl, ds, R0, rfl, h, q⟩
    exact len_arc_of h
  case body =>
    rintro args S R ⟨rfl, ds, R0, rfl, h, q⟩
    obtain ⟨p, q1, g, rfl, hR⟩ := h
    unfold arcS at hR
    walk_at "n"
    refine brD (fun h1 => ?_) (fun h1 => ?_)
    · rw [if_pos h1] at hR
      walk_at "n"
      refine tie_ ?_
      walk_at "n"
      refine brD (fun h2 => ?_) (fun h2 => ?_)
      · rw [if_pos h2] at hR
        walk_at "n"
        exact q _ hR _
      · rw [if_neg h2] at hR
        walk_at "n"
        exact q _ hR _
    · rw [if_neg h1] at hR
      walk_at "n"
      refine tie_ ?_
      walk_at "n"
      refine brD (fun h2 => ?_) (fun h2 => ?_)
      · rw [if_pos h2] at hR
        walk_at "n"
        exact ⟨by simp only [List.length_cons, List.length_nil]; decide, q _ hR _⟩
      · rw [if_neg h2] at hR
        walk_at "n"
        exact ⟨by simp only [List.length_cons, List.length_nil]; decide, q _ hR _⟩
/-! ### given_before -/
def pieceF (g : Int) : PyData → PyData
  | .tuple [.int t, .int u] => .int (t * (g / u))
  | _ => .none
theorem pieces_D (e : Ent) (g : Int) : mapD (pieceF g) (e.am.map ratD) = (pieces e g).map PyData.int := by
  rw [mapD_eq, List.map_map, pieces, List.map_map]; rfl
def spec_given (ds : List PyData) (R : PyData → Prop) : Prop := ∃ (e : Ent) (d g : Int), ds = [entD e, .int d, .int g] ∧ EntOk e ∧ g.natAbs < 2 ^ 700 ∧ R (.int (bef e g d))
theorem len_given {ds : List PyData} {R : PyData → Prop} (h : spec_given ds R) : (dA ds).length = 3 := by
  obtain ⟨_, _, _, rfl, _⟩ := h; rfl
theorem ok_given_before (T : Top K w mg cC aI dI a_u_law_bag d_u_law_bag a_u_law_take d_u_law_take a_u_law_part d_u_law_part a_u_law_lowest d_u_law_lowest a_u_law_amount d_u_law_amount a_u_law_entry d_u_law_entry a_u_law_entries d_u_law_entries a_u_law_grain d_u_law_grain a_u_law_stretch d_u_law_stretch a_u_law_before d_u_law_before a_u_law_told d_u_law_told a_u_law_statements d_u_law_statements a_u_law_case d_u_law_case a_u_law_days d_u_law_days a_is_integer_kinds d_is_integer_kinds a_is_within d_is_within a_is_day d_is_day a_is_stretch d_is_stretch a_is_integer_ratios d_is_integer_ratios a_common d_common a_is_ratio d_is_ratio a_is_amount d_is_amount a_are_amounts d_are_amounts a_wrong_part d_wrong_part a_check_item d_check_item a_M_numbered d_M_numbered a_M_of_kind d_M_of_kind a_M_add d_M_add a_M_need d_M_need a_M_drop d_M_drop a_u_law_ledger d_u_law_ledger a_lowest d_lowest a_grain_of d_grain_of a_as_ratios d_as_ratios a_meet d_meet a_arc_of d_arc_of a_given_before d_given_before a_units_before d_units_before a_greater_arc d_greater_arc a_lesser_number d_lesser_number a_outside d_outside a_allowed_units d_allowed_units a_left_units d_left_units a_M_entries d_M_entries a_M_statements d_M_statements a_left d_left a_u_law_near d_u_law_near a_is_cut d_is_cut a_check_cut d_check_cut a_check_stretch d_check_stretch a_floor_of d_floor_of a_plus d_plus a_check_day d_check_day a_sum_before d_sum_before a_total_by d_total_by a_told d_told a_parts_of d_parts_of a_numbers d_numbers a_u_law_right d_u_law_right a_law d_law)  :
    FnOkG P w K mg base 1 a_given_before d_given_before ["entry", "day", "grain"] (upF K (pur spec_given)) := by
  refine okP (k := 0) T.F_given_before sc_given_before (n := 12) rfl ?len (fun cdv A outer s H E hr hgs => (wss_consB (ws_asg (w_var 0) (wg_tup (n := 4) rfl (wgs_cons (wg_name (i := 3) sc_given_before.nd rfl (.inl rfl)) (wgs_cons (wg_name (i := 4) sc_given_before.nd rfl (.inl rfl)) (wgs_cons (wg_name (i := 5) sc_given_before.nd rfl (.inl rfl)) (wgs_cons (wg_name (i := 6) sc_given_before.nd rfl (.inl rfl)) wgs_nil))))))
      (wss_consB (ws_setLCf (i := 7) (own := [("top", 10), ("under", 11)]) rfl sc_given_before.nd rfl rfl (sw_true rfl rfl rfl (by decide +kernel)) (wi_tup (w_var 6)) (blkOk_by (N := ["entry", "day", "grain", "word", "first", "many", "amounts", "pieces", "rounds", "rest", "top", "under"]) (sc := defScope s_given_before) (by decide +kernel)) (by decide) (fun _ _ _ _ _ => (wg_tup (n := 2) rfl (wgs_cons (wg_name (i := 10) sc_given_before.nd rfl (.inl rfl)) (wgs_cons (wg_name (i := 11) sc_given_before.nd rfl (.inl rfl)) wgs_nil)))) (fun _ _ _ _ _ => wts_nil) (fun _ _ _ _ _ => (w_mul (w_var 10) (w_fdiv (w_var 2) (w_var 11)))))
      (wss_consB (ws_asg (w_divmod (wa_cons (w_bi ok_min2 (wa_cons (w_bi ok_max2 (wa_cons (w_sub (w_var 1) (w_var 4)) (wa_cons w_int wa_nil)) (fun t h => pe_callB (call_max2 rfl) (by rfl) T.m_max (by decide +kernel) h)) (wa_cons (w_var 5) wa_nil)) (fun t h => pe_callB (call_min2 rfl) (by rfl) T.m_min (by decide +kernel) h)) (wa_cons (w_bi ok_len (wa_cons (w_var 7) wa_nil) (fun t h => pe_callB (call_len_seq.or call_len_str) (by rfl) T.m_len (by decide +kernel) h)) wa_nil)) (fun t h => pe_callB call_divmodW (by rfl) T.m_divmod (by decide +kernel) h)) (wg_tup (n := 2) rfl (wgs_cons (wg_name (i := 8) sc_given_before.nd rfl (.inl rfl)) (wgs_cons (wg_name (i := 9) sc_given_before.nd rfl (.inl rfl)) wgs_nil))))
      (wss_one (ws_ret (w_add (w_mul (w_var 8) (w_bi ok_sum (wa_cons (w_var 7) wa_nil) (fun t h => pe_callB (cr_sum rfl) (by rfl) T.m_sum (by decide +kernel) h))) (w_bi ok_sum (wa_cons (w_ne (wn_slice (w_var 7) wo_none (wo_some (w_var 9)))) wa_nil) (fun t h => pe_callB (cr_sum rfl) (by rfl) T.m_sum (by decide +kernel) h))))))))) ?body
  case len =>
    rintro args S R ⟨rfl, ds, R0, rfl, h, q⟩
    exact len_given h
  case body =>
    rintro args S R ⟨rfl, ds, R0, rfl, h, q⟩
    obtain ⟨e, d, g, rfl, ok, hg, hR⟩ := h
    walk_at "n"
    refine lcb_map (pieceF g) (by rw [List.length_map]; exact Nat.le_trans ok.l4 (by decide)) (fun x hx k hk => ?_) ?_
    · obtain ⟨r, hr, rfl⟩ := List.mem_map.mp hx
      have rok := ok.ams r hr
      have bq := div_le g rok.ok.1
      walk_at "n"
      refine ⟨⟨rok.ok.1, logP (m := 30) (by have := rok.und; have := rok.ok.1; omega)⟩, ?_⟩
      refine ⟨mulP (m := 20) (n := 700) (Nat.lt_of_le_of_lt rok.top (by decide)) (Nat.lt_of_le_of_lt bq hg), ?_⟩
      exact hk
    rw [pieces_D]
    walk_at "n"
    rw [← days, List.length_map, pieces_len]
    obtain ⟨d0, d1⟩ := days_in ok d
    have l1 := ok.l1
    have l4 := ok.l4
    have l0 : (0 : Int) < e.am.length := by omega
    obtain ⟨s1, s2⟩ := sum_small ok hg
    have r0 := Int.emod_nonneg (days e d) (Int.ne_of_gt l0)
    have r1 := Int.emod_lt_of_pos (days e d) l0
    refine ⟨⟨l0, PyProof.noPylong_of_log2 (logP (m := 30) (by omega))⟩, ?_⟩
    walk_at "n"
    rw [Pu.intsD_map]
    walk_at "n"
    have dd : (days e d).natAbs < 2 ^ 100 := Nat.lt_of_le_of_lt (m := 10 ^ 30) (by have := ok.sum; have := ok.f0; omega) (by decide)
    refine ⟨mulP (Nat.lt_of_le_of_lt (div_le (days e d) l0) dd) s1, ?_⟩
    walk_at "n"
    rw [cut_to r0 (by rw [List.length_map, pieces_len]; omega), ← List.map_take, Pu.intsD_map]
    walk_at "n"
    exact q _ hR _
/-! ### units_before -/
def befF (g d : Int) : PyData → PyData
  | .tuple [.str _, .int f, .int m, .tuple am] => .int (bef ⟨f, m, am.map fun x => match x with | .tuple [.int t, .int u] => (t, u) | _ => (0, 0)⟩ g d)
  | _ => .none
theorem befF_ent (g d : Int) (e : Ent) : befF g d (entD e) = .int (bef e g d) := by
  unfold entD befF
  simp only [List.map_map]
  rw [show ((fun x => match x with | .tuple [.int t, .int u] => (t, u) | _ => (0, 0)) ∘ ratD : Int × Int → Int × Int) = id from rfl, List.map_id]
theorem befs_D (es : List Ent) (g d : Int) : mapD (befF g d) (es.map entD) = (es.map fun e => bef e g d).map PyData.int := by
  rw [mapD_eq, List.map_map, List.map_map]
  exact List.map_congr_left fun e _ => befF_ent g d e
def spec_before (ds : List PyData) (R : PyData → Prop) : Prop := ∃ (es : List Ent) (d g : Int), ds = [.list (es.map entD), .int d, .int g] ∧ (∀ e ∈ es, EntOk e) ∧ es.length ≤ 8 ∧ g.natAbs < 2 ^ 700 ∧ R (.int (before es g d))
theorem len_before {ds : List PyData} {R : PyData → Prop} (h : spec_before ds R) : (dA ds).length = 3 := by
  obtain ⟨_, _, _, rfl, _⟩ := h; rfl
theorem ok_units_before (T : Top K w mg cC aI dI a_u_law_bag d_u_law_bag a_u_law_take d_u_law_take a_u_law_part d_u_law_part a_u_law_lowest d_u_law_lowest a_u_law_amount d_u_law_amount a_u_law_entry d_u_law_entry a_u_law_entries d_u_law_entries a_u_law_grain d_u_law_grain a_u_law_stretch d_u_law_stretch a_u_law_before d_u_law_before a_u_law_told d_u_law_told a_u_law_statements d_u_law_statements a_u_law_case d_u_law_case a_u_law_days d_u_law_days a_is_integer_kinds d_is_integer_kinds a_is_within d_is_within a_is_day d_is_day a_is_stretch d_is_stretch a_is_integer_ratios d_is_integer_ratios a_common d_common a_is_ratio d_is_ratio a_is_amount d_is_amount a_are_amounts d_are_amounts a_wrong_part d_wrong_part a_check_item d_check_item a_M_numbered d_M_numbered a_M_of_kind d_M_of_kind a_M_add d_M_add a_M_need d_M_need a_M_drop d_M_drop a_u_law_ledger d_u_law_ledger a_lowest d_lowest a_grain_of d_grain_of a_as_ratios d_as_ratios a_meet d_meet a_arc_of d_arc_of a_given_before d_given_before a_units_before d_units_before a_greater_arc d_greater_arc a_lesser_number d_lesser_number a_outside d_outside a_allowed_units d_allowed_units a_left_units d_left_units a_M_entries d_M_entries a_M_statements d_M_statements a_left d_left a_u_law_near d_u_law_near a_is_cut d_is_cut a_check_cut d_check_cut a_check_stretch d_check_stretch a_floor_of d_floor_of a_plus d_plus a_check_day d_check_day a_sum_before d_sum_before a_total_by d_total_by a_told d_told a_parts_of d_parts_of a_numbers d_numbers a_u_law_right d_u_law_right a_law d_law) (G_given_before : FnOkG P w K mg base 1 a_given_before d_given_before ["entry", "day", "grain"] (upF K (pur spec_given))) :
    FnOkG P w K mg base 2 a_units_before d_units_before ["entries", "day", "grain"] (upF K (pur spec_before)) := by
  refine okP (k := 1) T.F_units_before sc_units_before (n := 4) rfl ?len (fun cdv A outer s H E hr hgs => (wss_one (ws_ret (w_bi ok_sum (wa_cons (w_ne (wn_lc (own := [("entry", 3)]) rfl sc_units_before.nd (wi_list (w_var 0)) (blkOk_by (N := ["entries", "day", "grain", "entry"]) (sc := defScope s_units_before) (by decide +kernel)) (by decide) (fun _ _ _ _ _ => (wg_name (i := 3) sc_units_before.nd rfl (.inl rfl))) (fun _ _ _ _ _ => wts_nil) (fun _ _ _ _ _ => (w_call G_given_before hr hgs (by rfl) T.g_given_before T.F_given_before.kp T.b_given_before (wa_cons (w_var 3) (wa_cons (w_var 1) (wa_cons (w_var 2) wa_nil))))))) wa_nil) (fun t h => pe_callB (cr_sum rfl) (by rfl) T.m_sum (by decide +kernel) h))))) ?body
  case len =>
    rintro args S R ⟨rfl, ds, R0, rfl, h, q⟩
    exact len_before h
  case body =>
    rintro args S R ⟨rfl, ds, R0, rfl, h, q⟩
    obtain ⟨es, d, g, rfl, hes, hl, hg, hR⟩ := h
    walk_at "n"
    refine lcb_map (befF g d) (by rw [List.length_map]; exact Nat.le_trans hl (by decide)) (fun x hx k hk => ?_) ?_
    · obtain ⟨e, he, rfl⟩ := List.mem_map.mp hx
      walk_at "n"
      refine ⟨e, d, g, rfl, hes e he, hg, ?_⟩
      rw [befF_ent] at hk
      exact hk
    rw [befs_D]
    walk_at "n"
    rw [Pu.intsD_map]
    walk_at "n"
    exact q _ hR _
/-! ### greater_arc -/
def spec_garc (ds : List PyData) (R : PyData → Prop) : Prop := ∃ (es : List Ent) (f m g : Int), ds = [.list (es.map entD), .tuple [.int f, .int m], .int g] ∧ (∀ e ∈ es, EntOk e) ∧ es.length ≤ 8 ∧ 0 < g ∧ g.natAbs < 2 ^ 700 ∧ R (.list ((arcS (ptU (before es g (f + m)) g) (ptU (before es g f) g) g).map ratD))
theorem len_garc {ds : List PyData} {R : PyData → Prop} (h : spec_garc ds R) : (dA ds).length = 3 := by
  obtain ⟨_, _, _, _, rfl, _⟩ := h; rfl
theorem ok_greater_arc (T : Top K w mg cC aI dI a_u_law_bag d_u_law_bag a_u_law_take d_u_law_take a_u_law_part d_u_law_part a_u_law_lowest d_u_law_lowest a_u_law_amount d_u_law_amount a_u_law_entry d_u_law_entry a_u_law_entries d_u_law_entries a_u_law_grain d_u_law_grain a_u_law_stretch d_u_law_stretch a_u_law_before d_u_law_before a_u_law_told d_u_law_told a_u_law_statements d_u_law_statements a_u_law_case d_u_law_case a_u_law_days d_u_law_days a_is_integer_kinds d_is_integer_kinds a_is_within d_is_within a_is_day d_is_day a_is_stretch d_is_stretch a_is_integer_ratios d_is_integer_ratios a_common d_common a_is_ratio d_is_ratio a_is_amount d_is_amount a_are_amounts d_are_amounts a_wrong_part d_wrong_part a_check_item d_check_item a_M_numbered d_M_numbered a_M_of_kind d_M_of_kind a_M_add d_M_add a_M_need d_M_need a_M_drop d_M_drop a_u_law_ledger d_u_law_ledger a_lowest d_lowest a_grain_of d_grain_of a_as_ratios d_as_ratios a_meet d_meet a_arc_of d_arc_of a_given_before d_given_before a_units_before d_units_before a_greater_arc d_greater_arc a_lesser_number d_lesser_number a_outside d_outside a_allowed_units d_allowed_units a_left_units d_left_units a_M_entries d_M_entries a_M_statements d_M_statements a_left d_left a_u_law_near d_u_law_near a_is_cut d_is_cut a_check_cut d_check_cut a_check_stretch d_check_stretch a_floor_of d_floor_of a_plus d_plus a_check_day d_check_day a_sum_before d_sum_before a_total_by d_total_by a_told d_told a_parts_of d_parts_of a_numbers d_numbers a_u_law_right d_u_law_right a_law d_law) (G_arc_of : FnOkG P w K mg base 1 a_arc_of d_arc_of ["low", "high", "grain"] (upF K (pur spec_arc_of))) (G_units_before : FnOkG P w K mg base 2 a_units_before d_units_before ["entries", "day", "grain"] (upF K (pur spec_before))) :
    FnOkG P w K mg base 3 a_greater_arc d_greater_arc ["entries", "stretch", "grain"] (upF K (pur spec_garc)) := by
  refine okP (k := 2) T.F_greater_arc sc_greater_arc (n := 6) rfl ?len (fun cdv A outer s H E hr hgs => (wss_consB (ws_asg (w_var 1) (wg_tup (n := 2) rfl (wgs_cons (wg_name (i := 3) sc_greater_arc.nd rfl (.inl rfl)) (wgs_cons (wg_name (i := 4) sc_greater_arc.nd rfl (.inl rfl)) wgs_nil))))
      (wss_consB (ws_set (i := 5) sc_greater_arc.nd rfl (.inl rfl) (w_mod (w_neg (w_call G_units_before hr hgs (by rfl) T.g_units_before T.F_units_before.kp T.b_units_before (wa_cons (w_var 0) (wa_cons (w_add (w_var 3) (w_var 4)) (wa_cons (w_var 2) wa_nil))))) (w_var 2)))
      (wss_one (ws_ret (w_call G_arc_of (hr.mono (by decide)) hgs (by rfl) T.g_arc_of T.F_arc_of.kp T.b_arc_of (wa_cons (w_var 5) (wa_cons (w_mod (w_neg (w_call G_units_before hr hgs (by rfl) T.g_units_before T.F_units_before.kp T.b_units_before (wa_cons (w_var 0) (wa_cons (w_var 3) (wa_cons (w_var 2) wa_nil))))) (w_var 2)) (wa_cons (w_var 2) wa_nil))))))))) ?body
  case len =>
    rintro args S R ⟨rfl, ds, R0, rfl, h, q⟩
    exact len_garc h
  case body =>
    rintro args S R ⟨rfl, ds, R0, rfl, h, q⟩
    obtain ⟨es, f, m, g, rfl, hes, hl, hg, hb, hR⟩ := h
    walk_at "n"
    refine ⟨es, f + m, g, rfl, hes, hl, hb, ?_⟩
    walk_at "n"
    refine ⟨hg, ?_⟩
    walk_at "n"
    refine ⟨es, f, g, rfl, hes, hl, hb, ?_⟩
    walk_at "n"
    refine ⟨hg, ?_⟩
    refine ⟨_, _, g, rfl, ?_⟩
    walk_at "n"
    exact q _ hR _
/-! ### lesser_number -/
def spec_lesser (ds : List PyData) (R : PyData → Prop) : Prop := ∃ (es : List Ent) (f m g : Int), ds = [.list (es.map entD), .tuple [.int f, .int m], .int g] ∧ (∀ e ∈ es, EntOk e) ∧ es.length ≤ 8 ∧ 0 < g ∧ g.natAbs < 2 ^ 700 ∧ R (.int (lesser (before es g f) (before es g (f + m)) g))
theorem len_lesser {ds : List PyData} {R : PyData → Prop} (h : spec_lesser ds R) : (dA ds).length = 3 := by
  obtain ⟨_, _, _, _, rfl, _⟩ := h; rfl
theorem ok_lesser_number (T : Top K w mg cC aI dI a_u_law_bag d_u_law_bag a_u_law_take d_u_law_take a_u_law_part d_u_law_part a_u_law_lowest d_u_law_lowest a_u_law_amount d_u_law_amount a_u_law_entry d_u_law_entry a_u_law_entries d_u_law_entries a_u_law_grain d_u_law_grain a_u_law_stretch d_u_law_stretch a_u_law_before d_u_law_before a_u_law_told d_u_law_told a_u_law_statements d_u_law_statements a_u_law_case d_u_law_case a_u_law_days d_u_law_days a_is_integer_kinds d_is_integer_kinds a_is_within d_is_within a_is_day d_is_day a_is_stretch d_is_stretch a_is_integer_ratios d_is_integer_ratios a_common d_common a_is_ratio d_is_ratio a_is_amount d_is_amount a_are_amounts d_are_amounts a_wrong_part d_wrong_part a_check_item d_check_item a_M_numbered d_M_numbered a_M_of_kind d_M_of_kind a_M_add d_M_add a_M_need d_M_need a_M_drop d_M_drop a_u_law_ledger d_u_law_ledger a_lowest d_lowest a_grain_of d_grain_of a_as_ratios d_as_ratios a_meet d_meet a_arc_of d_arc_of a_given_before d_given_before a_units_before d_units_before a_greater_arc d_greater_arc a_lesser_number d_lesser_number a_outside d_outside a_allowed_units d_allowed_units a_left_units d_left_units a_M_entries d_M_entries a_M_statements d_M_statements a_left d_left a_u_law_near d_u_law_near a_is_cut d_is_cut a_check_cut d_check_cut a_check_stretch d_check_stretch a_floor_of d_floor_of a_plus d_plus a_check_day d_check_day a_sum_before d_sum_before a_total_by d_total_by a_told d_told a_parts_of d_parts_of a_numbers d_numbers a_u_law_right d_u_law_right a_law d_law) (G_units_before : FnOkG P w K mg base 2 a_units_before d_units_before ["entries", "day", "grain"] (upF K (pur spec_before))) :
    FnOkG P w K mg base 3 a_lesser_number d_lesser_number ["entries", "stretch", "grain"] (upF K (pur spec_lesser)) := by
  refine okP (k := 2) T.F_lesser_number sc_lesser_number (n := 5) rfl ?len (fun cdv A outer s H E hr hgs => (wss_consB (ws_asg (w_var 1) (wg_tup (n := 2) rfl (wgs_cons (wg_name (i := 3) sc_lesser_number.nd rfl (.inl rfl)) (wgs_cons (wg_name (i := 4) sc_lesser_number.nd rfl (.inl rfl)) wgs_nil))))
      (wss_one (ws_ret (w_fdiv (w_sub (w_call G_units_before hr hgs (by rfl) T.g_units_before T.F_units_before.kp T.b_units_before (wa_cons (w_var 0) (wa_cons (w_add (w_var 3) (w_var 4)) (wa_cons (w_var 2) wa_nil)))) (w_call G_units_before hr hgs (by rfl) T.g_units_before T.F_units_before.kp T.b_units_before (wa_cons (w_var 0) (wa_cons (w_var 3) (wa_cons (w_var 2) wa_nil))))) (w_var 2)))))) ?body
  case len =>
    rintro args S R ⟨rfl, ds, R0, rfl, h, q⟩
    exact len_lesser h
  case body =>
    rintro args S R ⟨rfl, ds, R0, rfl, h, q⟩
    obtain ⟨es, f, m, g, rfl, hes, hl, hg, hb, hR⟩ := h
    walk_at "n"
    refine ⟨es, f + m, g, rfl, hes, hl, hb, ?_⟩
    refine ⟨es, f, g, rfl, hes, hl, hb, ?_⟩
    walk_at "n"
    refine ⟨⟨hg, logP (lt_up hb (by decide : 700 ≤ 8000))⟩, ?_⟩
    walk_at "n"
    exact q _ hR _
/-! ### outside -/
def spec_outside (ds : List PyData) (R : PyData → Prop) : Prop := ∃ (x : List (Int × Int)) (g : Int), ds = [.list (x.map ratD), .int g] ∧ x.length ≤ 1000 ∧ R (.list ((outS x g).map ratD))
theorem len_outside {ds : List PyData} {R : PyData → Prop} (h : spec_outside ds R) : (dA ds).length = 2 := by
  obtain ⟨_, _, rfl, _⟩ := h; rfl
theorem outG_take {x : List (Int × Int)} {i : Nat} {s : Int × Int} (h : x[i]? = some s) : outG (x.take (i + 1)) 0 = (if (outG (x.take i) 0).2 < s.1 then (outG (x.take i) 0).1 ++ [((outG (x.take i) 0).2, s.1)] else (outG (x.take i) 0).1, s.2) := by
  rw [List.take_add_one, h]
  unfold outG
  rw [List.foldl_append]; rfl
theorem outG_len : ∀ (x : List (Int × Int)), (outG x 0).1.length ≤ x.length := fun x => by
  have go : ∀ (x : List (Int × Int)) (p : List (Int × Int) × Int), (x.foldl (fun p s => (if p.2 < s.1 then p.1 ++ [(p.2, s.1)] else p.1, s.2)) p).1.length ≤ p.1.length + x.length := by
    intro x
    induction x with
    | nil => intro p; simp
    | cons s x ih =>
      intro p
      rw [List.foldl_cons]
      refine Nat.le_trans (ih _) ?_
      simp only [List.length_cons]
      split
      · rw [List.length_append]; simp; omega
      · omega
  simpa [outG] using go x ([], 0)
theorem ok_outside (T : Top K w mg cC aI dI a_u_law_bag d_u_law_bag a_u_law_take d_u_law_take a_u_law_part d_u_law_part a_u_law_lowest d_u_law_lowest a_u_law_amount d_u_law_amount a_u_law_entry d_u_law_entry a_u_law_entries d_u_law_entries a_u_law_grain d_u_law_grain a_u_law_stretch d_u_law_stretch a_u_law_before d_u_law_before a_u_law_told d_u_law_told a_u_law_statements d_u_law_statements a_u_law_case d_u_law_case a_u_law_days d_u_law_days a_is_integer_kinds d_is_integer_kinds a_is_within d_is_within a_is_day d_is_day a_is_stretch d_is_stretch a_is_integer_ratios d_is_integer_ratios a_common d_common a_is_ratio d_is_ratio a_is_amount d_is_amount a_are_amounts d_are_amounts a_wrong_part d_wrong_part a_check_item d_check_item a_M_numbered d_M_numbered a_M_of_kind d_M_of_kind a_M_add d_M_add a_M_need d_M_need a_M_drop d_M_drop a_u_law_ledger d_u_law_ledger a_lowest d_lowest a_grain_of d_grain_of a_as_ratios d_as_ratios a_meet d_meet a_arc_of d_arc_of a_given_before d_given_before a_units_before d_units_before a_greater_arc d_greater_arc a_lesser_number d_lesser_number a_outside d_outside a_allowed_units d_allowed_units a_left_units d_left_units a_M_entries d_M_entries a_M_statements d_M_statements a_left d_left a_u_law_near d_u_law_near a_is_cut d_is_cut a_check_cut d_check_cut a_check_stretch d_check_stretch a_floor_of d_floor_of a_plus d_plus a_check_day d_check_day a_sum_before d_sum_before a_total_by d_total_by a_told d_told a_parts_of d_parts_of a_numbers d_numbers a_u_law_right d_u_law_right a_law d_law)  :
    FnOkG P w K mg base 1 a_outside d_outside ["one", "grain"] (upF K (pur spec_outside)) := by
  refine okP (k := 0) T.F_outside sc_outside (n := 6) rfl ?len (fun cdv A outer s H E hr hgs => (wss_consB (ws_par (i := 2) (j := 3) rfl sc_outside.nd rfl rfl (by decide) rfl rfl (wa_cons (w_cell (wn_list wa_nil)) (wa_cons w_int wa_nil)) (by rfl))
      (wss_consB (ws_for PassesOwn.never rfl (wi_list (w_var 0)) (wg_tup (n := 2) rfl (wgs_cons (wg_name (i := 4) sc_outside.nd rfl (.inl rfl)) (wgs_cons (wg_name (i := 5) sc_outside.nd rfl (.inl rfl)) wgs_nil))) (wss_consB (ws_ifJ (wt_lt (w_var 3) (w_var 4)) (wss_one (ws_expr (w_append (i := 2) (w_tup (wa_cons (w_var 3) (wa_cons (w_var 4) wa_nil))) (fun t h => pe_bm PySem.F.plainAttrs_list PySem.F.slot_list_append PySem.F.type_list_append mt_append (pv 2) (pa_cons h pa_nil))))) wss_nil)
      (wss_one (ws_set (i := 3) sc_outside.nd rfl (.inl rfl) (w_var 5)))))
      (wss_one (ws_ret (we_ifExp (wt_lt (w_var 3) (w_var 1)) (w_add (w_fz (w_var 2)) (w_list (wa_cons (w_tup (wa_cons (w_var 3) (wa_cons (w_var 1) wa_nil))) wa_nil))) (w_fz (w_var 2)))))))) ?body
  case len =>
    rintro args S R ⟨rfl, ds, R0, rfl, h, q⟩
    exact len_outside h
  case body =>
    rintro args S R ⟨rfl, ds, R0, rfl, h, q⟩
    obtain ⟨x, g, rfl, hl, hR⟩ := h
    walk_at "n"
    refine ⟨fun i ρ S => ∃ (o1 o2 : Option PV), ρ = [some (.d (.list (x.map ratD))), some (.d (.int g)), some (.cel 0), some (.d (.int (outG (x.take i) 0).2)), o1, o2] ∧ S = [.lst ((outG (x.take i) 0).1.map ratD)], ⟨_, _, rfl, rfl⟩, ?_, ?_⟩
    · rintro i d _ _ hd ⟨o1, o2, rfl, rfl⟩
      rw [List.getElem?_map, Option.map_eq_some_iff] at hd
      obtain ⟨s, hs, rfl⟩ := hd
      have ht := outG_take hs
      have hn := outG_len (x.take i)
      rw [List.length_take] at hn
      walk_at "n"
      refine tifj_ ?_
      walk_at "n"
      refine brD (fun h1 => ?_) (fun h1 => ?_)
      · rw [if_pos h1] at ht
        walk_at "n"
        refine ⟨by rw [List.length_map]; exact Nat.lt_of_le_of_lt (show _ ≤ 1000 by omega) (by decide), ?_⟩
        walk_at "n"
        refine .inl ⟨_, _, by rw [ht], ?_⟩
        rw [ht, List.map_append, List.map_cons, List.map_nil, ← snocD_eq]
      · rw [if_neg h1] at ht
        walk_at "n"
        exact .inl ⟨_, _, by rw [ht], by rw [ht]⟩
    · rintro _ _ ⟨o1, o2, rfl, rfl⟩
      rw [List.length_map, List.take_length]
      unfold outS at hR
      walk_at "n"
      refine tie_ ?_
      walk_at "n"
      refine brD (fun h1 => ?_) (fun h1 => ?_)
      · rw [if_pos h1, List.map_append] at hR
        walk_at "n"
        have hn := outG_len x
        refine ⟨?_, q _ hR _⟩
        rw [List.length_map]
        exact Nat.le_trans (show _ ≤ 1001 by simp only [List.length_cons, List.length_nil]; omega) (by decide)
      · rw [if_neg h1] at hR
        walk_at "n"
        exact q _ hR _
/-! ### allowed_units -/
def spec_allowed_units (ds : List PyData) (R : PyData → Prop) : Prop := ∃ (es : List Ent) (s : Sta) (g : Int), ds = [.list (es.map entD), staD s, .int g] ∧ (∀ e ∈ es, EntOk e) ∧ es.length ≤ 8 ∧ 0 < g ∧ g.natAbs < 2 ^ 700 ∧ R (.list ((allowS (before es g s.first) (before es g (s.first + s.many)) g s.num).map ratD))
theorem len_allowed_units {ds : List PyData} {R : PyData → Prop} (h : spec_allowed_units ds R) : (dA ds).length = 3 := by
  obtain ⟨_, _, _, rfl, _⟩ := h; rfl
theorem ok_allowed_units (T : Top K w mg cC aI dI a_u_law_bag d_u_law_bag a_u_law_take d_u_law_take a_u_law_part d_u_law_part a_u_law_lowest d_u_law_lowest a_u_law_amount d_u_law_amount a_u_law_entry d_u_law_entry a_u_law_entries d_u_law_entries a_u_law_grain d_u_law_grain a_u_law_stretch d_u_law_stretch a_u_law_before d_u_law_before a_u_law_told d_u_law_told a_u_law_statements d_u_law_statements a_u_law_case d_u_law_case a_u_law_days d_u_law_days a_is_integer_kinds d_is_integer_kinds a_is_within d_is_within a_is_day d_is_day a_is_stretch d_is_stretch a_is_integer_ratios d_is_integer_ratios a_common d_common a_is_ratio d_is_ratio a_is_amount d_is_amount a_are_amounts d_are_amounts a_wrong_part d_wrong_part a_check_item d_check_item a_M_numbered d_M_numbered a_M_of_kind d_M_of_kind a_M_add d_M_add a_M_need d_M_need a_M_drop d_M_drop a_u_law_ledger d_u_law_ledger a_lowest d_lowest a_grain_of d_grain_of a_as_ratios d_as_ratios a_meet d_meet a_arc_of d_arc_of a_given_before d_given_before a_units_before d_units_before a_greater_arc d_greater_arc a_lesser_number d_lesser_number a_outside d_outside a_allowed_units d_allowed_units a_left_units d_left_units a_M_entries d_M_entries a_M_statements d_M_statements a_left d_left a_u_law_near d_u_law_near a_is_cut d_is_cut a_check_cut d_check_cut a_check_stretch d_check_stretch a_floor_of d_floor_of a_plus d_plus a_check_day d_check_day a_sum_before d_sum_before a_total_by d_total_by a_told d_told a_parts_of d_parts_of a_numbers d_numbers a_u_law_right d_u_law_right a_law d_law) (G_greater_arc : FnOkG P w K mg base 3 a_greater_arc d_greater_arc ["entries", "stretch", "grain"] (upF K (pur spec_garc))) (G_lesser_number : FnOkG P w K mg base 3 a_lesser_number d_lesser_number ["entries", "stretch", "grain"] (upF K (pur spec_lesser))) (G_outside : FnOkG P w K mg base 1 a_outside d_outside ["one", "grain"] (upF K (pur spec_outside))) :
    FnOkG P w K mg base 4 a_allowed_units d_allowed_units ["entries", "statement", "grain"] (upF K (pur spec_allowed_units)) := by
  refine okP (k := 3) T.F_allowed_units sc_allowed_units (n := 9) rfl ?len (fun cdv A outer s H E hr hgs => (wss_consB (ws_asg (w_var 1) (wg_tup (n := 4) rfl (wgs_cons (wg_name (i := 3) sc_allowed_units.nd rfl (.inl rfl)) (wgs_cons (wg_name (i := 4) sc_allowed_units.nd rfl (.inl rfl)) (wgs_cons (wg_name (i := 5) sc_allowed_units.nd rfl (.inl rfl)) (wgs_cons (wg_name (i := 6) sc_allowed_units.nd rfl (.inl rfl)) wgs_nil))))))
      (wss_consB (ws_set (i := 7) sc_allowed_units.nd rfl (.inl rfl) (w_call G_greater_arc hr hgs (by rfl) T.g_greater_arc T.F_greater_arc.kp T.b_greater_arc (wa_cons (w_var 0) (wa_cons (w_tup (wa_cons (w_var 4) (wa_cons (w_var 5) wa_nil))) (wa_cons (w_var 2) wa_nil)))))
      (wss_consB (ws_set (i := 8) sc_allowed_units.nd rfl (.inl rfl) (w_call G_lesser_number hr hgs (by rfl) T.g_lesser_number T.F_lesser_number.kp T.b_lesser_number (wa_cons (w_var 0) (wa_cons (w_tup (wa_cons (w_var 4) (wa_cons (w_var 5) wa_nil))) (wa_cons (w_var 2) wa_nil)))))
      (wss_consB (ws_if (wt_eq hr (w_var 6) (w_var 8)) (wss_one (ws_ret (w_call G_outside (hr.mono (by decide)) hgs (by rfl) T.g_outside T.F_outside.kp T.b_outside (wa_cons (w_var 7) (wa_cons (w_var 2) wa_nil))))) wss_nil)
      (wss_one (ws_ret (we_ifExp (wt_eq hr (w_var 6) (w_add (w_var 8) w_int)) (w_var 7) (w_list wa_nil))))))))) ?body
  case len =>
    rintro args S R ⟨rfl, ds, R0, rfl, h, q⟩
    exact len_allowed_units h
  case body =>
    rintro args S R ⟨rfl, ds, R0, rfl, h, q⟩
    obtain ⟨es, ⟨f, m, n⟩, g, rfl, hes, hl, hg, hb, hR⟩ := h
    dsimp only at hR
    walk_at "n"
    refine ⟨es, f, m, g, rfl, hes, hl, hg, hb, ?_⟩
    walk_at "n"
    refine ⟨es, f, m, g, rfl, hes, hl, hg, hb, ?_⟩
    have al := arcS_ok (ptU_in (before es g (f + m)) hg).1 (ptU_in (before es g (f + m)) hg).2 (ptU_in (before es g f) hg).1 (ptU_in (before es g f) hg).2
    unfold allowS at hR
    walk_at "n"
    refine brD (fun h1 => ?_) (fun h1 => ?_)
    · rw [if_pos h1] at hR
      walk_at "n"
      refine ⟨_, g, rfl, by have := al.2.2; omega, ?_⟩
      walk_at "n"
      exact q _ hR _
    · rw [if_neg h1] at hR
      walk_at "n"
      refine tie_ ?_
      walk_at "n"
      refine brD (fun h2 => ?_) (fun h2 => ?_)
      · rw [if_pos h2] at hR
        walk_at "n"
        exact q _ hR _
      · rw [if_neg h2] at hR
        walk_at "n"
        exact q _ hR _
/-! ### left_units -/
def spec_left_units (ds : List PyData) (R : PyData → Prop) : Prop := ∃ (es : List Ent) (ss : List Sta) (g : Int), ds = [.list (es.map entD), .list (ss.map staD), .int g] ∧ (∀ e ∈ es, EntOk e) ∧ es.length ≤ 8 ∧ 0 < g ∧ g.natAbs < 2 ^ 700 ∧ ss.length ≤ 100 ∧
  ∀ sp, IsSet g (Sat es g ss) sp → sp.length ≤ 1 + 3 * ss.length → R (.list (sp.map ratD))
theorem len_left_units {ds : List PyData} {R : PyData → Prop} (h : spec_left_units ds R) : (dA ds).length = 3 := by
  obtain ⟨_, _, _, rfl, _⟩ := h; rfl
theorem sat_take {es : List Ent} {g u : Int} {ss : List Sta} {i : Nat} {s : Sta} (h : ss[i]? = some s) : Sat es g (ss.take (i + 1)) u ↔ Sat es g (ss.take i) u ∧ toldBy es g u s.first (s.first + s.many) = s.num := by
  unfold Sat
  rw [List.take_add_one, h]
  constructor
  · exact fun w => ⟨fun t ht => w t (List.mem_append.mpr (.inl ht)), w s (by simp)⟩
  · rintro ⟨w1, w2⟩ t ht
    rcases List.mem_append.mp ht with ht | ht
    · exact w1 t ht
    · have : t = s := by simpa using ht
      subst this; exact w2
theorem ok_left_units (T : Top K w mg cC aI dI a_u_law_bag d_u_law_bag a_u_law_take d_u_law_take a_u_law_part d_u_law_part a_u_law_lowest d_u_law_lowest a_u_law_amount d_u_law_amount a_u_law_entry d_u_law_entry a_u_law_entries d_u_law_entries a_u_law_grain d_u_law_grain a_u_law_stretch d_u_law_stretch a_u_law_before d_u_law_before a_u_law_told d_u_law_told a_u_law_statements d_u_law_statements a_u_law_case d_u_law_case a_u_law_days d_u_law_days a_is_integer_kinds d_is_integer_kinds a_is_within d_is_within a_is_day d_is_day a_is_stretch d_is_stretch a_is_integer_ratios d_is_integer_ratios a_common d_common a_is_ratio d_is_ratio a_is_amount d_is_amount a_are_amounts d_are_amounts a_wrong_part d_wrong_part a_check_item d_check_item a_M_numbered d_M_numbered a_M_of_kind d_M_of_kind a_M_add d_M_add a_M_need d_M_need a_M_drop d_M_drop a_u_law_ledger d_u_law_ledger a_lowest d_lowest a_grain_of d_grain_of a_as_ratios d_as_ratios a_meet d_meet a_arc_of d_arc_of a_given_before d_given_before a_units_before d_units_before a_greater_arc d_greater_arc a_lesser_number d_lesser_number a_outside d_outside a_allowed_units d_allowed_units a_left_units d_left_units a_M_entries d_M_entries a_M_statements d_M_statements a_left d_left a_u_law_near d_u_law_near a_is_cut d_is_cut a_check_cut d_check_cut a_check_stretch d_check_stretch a_floor_of d_floor_of a_plus d_plus a_check_day d_check_day a_sum_before d_sum_before a_total_by d_total_by a_told d_told a_parts_of d_parts_of a_numbers d_numbers a_u_law_right d_u_law_right a_law d_law) (G_meet : FnOkG P w K mg base 1 a_meet d_meet ["one", "other"] (upF K (pur spec_meet))) (G_allowed_units : FnOkG P w K mg base 4 a_allowed_units d_allowed_units ["entries", "statement", "grain"] (upF K (pur spec_allowed_units))) :
    FnOkG P w K mg base 5 a_left_units d_left_units ["entries", "statements", "grain"] (upF K (pur spec_left_units)) := by
  refine okP (k := 4) T.F_left_units sc_left_units (n := 5) rfl ?len (fun cdv A outer s H E hr hgs => (wss_consB (ws_set (i := 3) sc_left_units.nd rfl (.inl rfl) (w_list (wa_cons (w_tup (wa_cons w_int (wa_cons (w_var 2) wa_nil))) wa_nil)))
      (wss_consB (ws_for PassesOwn.never rfl (wi_list (w_var 1)) (wg_name (i := 4) sc_left_units.nd rfl (.inl rfl)) (wss_one (ws_set (i := 3) sc_left_units.nd rfl (.inl rfl) (w_call G_meet (hr.mono (by decide)) hgs (by rfl) T.g_meet T.F_meet.kp T.b_meet (wa_cons (w_var 3) (wa_cons (w_call G_allowed_units hr hgs (by rfl) T.g_allowed_units T.F_allowed_units.kp T.b_allowed_units (wa_cons (w_var 0) (wa_cons (w_var 4) (wa_cons (w_var 2) wa_nil)))) wa_nil))))))
      (wss_one (ws_ret (w_var 3)))))) ?body
  case len =>
    rintro args S R ⟨rfl, ds, R0, rfl, h, q⟩
    exact len_left_units h
  case body =>
    rintro args S R ⟨rfl, ds, R0, rfl, h, q⟩
    obtain ⟨es, ss, g, rfl, hes, hl, hg, hb, hss, hR⟩ := h
    walk_at "n"
    refine ⟨fun i ρ S => ∃ (sp : List (Int × Int)) (o1 : Option PV), ρ = [some (.d (.list (es.map entD))), some (.d (.list (ss.map staD))), some (.d (.int g)), some (.d (.list (sp.map ratD))), o1] ∧ S = [] ∧ IsSet g (Sat es g (ss.take i)) sp ∧ sp.length ≤ 1 + 3 * i, ⟨[(0, g)], _, rfl, rfl, (IsSet.all hg).iff fun u => ⟨fun _ t ht => by simp at ht, fun _ => trivial⟩, by simp⟩, ?_, ?_⟩
    · rintro i d _ _ hd ⟨sp, o1, rfl, rfl, hsp, hl2⟩
      have hil : i < (ss.map staD).length := (List.getElem?_eq_some_iff.mp hd).1
      rw [List.length_map] at hil
      rw [List.getElem?_map, Option.map_eq_some_iff] at hd
      obtain ⟨s, hs, rfl⟩ := hd
      have al := allowS_ok (before es g s.first) (before es g (s.first + s.many)) s.num hg
      walk_at "n"
      refine ⟨es, s, g, rfl, hes, hl, hg, hb, ?_⟩
      refine ⟨sp, _, rfl, by omega, by have := al.2.2; omega, ?_⟩
      walk_at "n"
      have hal : IsSet g (fun u => toldBy es g u s.first (s.first + s.many) = s.num) (allowS (before es g s.first) (before es g (s.first + s.many)) g s.num) := ⟨al.1, al.2.1⟩
      have ml := meet_len hsp.norm al.1
      exact .inl ⟨_, _, rfl, rfl, (hsp.meet hal).iff fun u => (sat_take hs).symm, by have := al.2.2; omega⟩
    · rintro _ _ ⟨sp, o1, rfl, rfl, hsp, hl2⟩
      rw [List.length_map] at hl2
      rw [List.length_map, List.take_length] at hsp
      walk_at "n"
      exact q _ (hR sp hsp hl2) _
/-! ### Ledger.entries -/
def spec_entriesM (lvs : List LV) (R : List PyData → List LV → Prop) : Prop := ∃ (d : Addr) (l : Led) (n : Int), lvs = [.L d (itsL l) n] ∧ LedOk l n ∧ R ((ents l).map entD) [.L d (itsL l) n]
theorem len_entriesM {lvs : List LV} {R : List PyData → List LV → Prop} (h : spec_entriesM lvs R) : (pvL 0 lvs).length = 1 := by
  obtain ⟨_, _, _, rfl, _⟩ := h; rfl
theorem ok_M_entries (T : Top K w mg cC aI dI a_u_law_bag d_u_law_bag a_u_law_take d_u_law_take a_u_law_part d_u_law_part a_u_law_lowest d_u_law_lowest a_u_law_amount d_u_law_amount a_u_law_entry d_u_law_entry a_u_law_entries d_u_law_entries a_u_law_grain d_u_law_grain a_u_law_stretch d_u_law_stretch a_u_law_before d_u_law_before a_u_law_told d_u_law_told a_u_law_statements d_u_law_statements a_u_law_case d_u_law_case a_u_law_days d_u_law_days a_is_integer_kinds d_is_integer_kinds a_is_within d_is_within a_is_day d_is_day a_is_stretch d_is_stretch a_is_integer_ratios d_is_integer_ratios a_common d_common a_is_ratio d_is_ratio a_is_amount d_is_amount a_are_amounts d_are_amounts a_wrong_part d_wrong_part a_check_item d_check_item a_M_numbered d_M_numbered a_M_of_kind d_M_of_kind a_M_add d_M_add a_M_need d_M_need a_M_drop d_M_drop a_u_law_ledger d_u_law_ledger a_lowest d_lowest a_grain_of d_grain_of a_as_ratios d_as_ratios a_meet d_meet a_arc_of d_arc_of a_given_before d_given_before a_units_before d_units_before a_greater_arc d_greater_arc a_lesser_number d_lesser_number a_outside d_outside a_allowed_units d_allowed_units a_left_units d_left_units a_M_entries d_M_entries a_M_statements d_M_statements a_left d_left a_u_law_near d_u_law_near a_is_cut d_is_cut a_check_cut d_check_cut a_check_stretch d_check_stretch a_floor_of d_floor_of a_plus d_plus a_check_day d_check_day a_sum_before d_sum_before a_total_by d_total_by a_told d_told a_parts_of d_parts_of a_numbers d_numbers a_u_law_right d_u_law_right a_law d_law) (G_M_of_kind : FnOkG P w K mg base 2 a_M_of_kind d_M_of_kind ["self", "kind"] (upF K (gN spec_of_kind))) :
    FnOkG P w K mg base 3 a_M_entries d_M_entries ["self"] (upF K (gN spec_entriesM)) := by
  refine okP (k := 2) T.F_M_entries sc_M_entries (n := 1) rfl ?len (fun cdv A outer s H E hr hgs => (wss_one (ws_retN (w_mN T.L ⟨by decide +kernel, by decide +kernel⟩ (w_var 0) T.me_M_of_kind G_M_of_kind hr hgs T.b_M_of_kind (wa_cons (w_cst T.w_ENTRY (by rfl)) wa_nil) (fun t u h h2 => pe_methG h T.L.cl T.me_M_of_kind G_M_of_kind hr hgs T.b_M_of_kind .nil h2))))) ?body
  case len =>
    rintro args S R ⟨lvs, R0, rfl, rfl, h, q⟩
    exact len_entriesM h
  case body =>
    rintro args S R ⟨lvs, R0, rfl, rfl, h, q⟩
    obtain ⟨d, l, n, rfl, ok, hR⟩ := h
    walk_at "n"
    refine ⟨rfl, d, l, n, _, rfl, ok, ?_⟩
    walk_at "n"
    rw [ofKind_e]
    walk_at "n"
    exact q _ _ hR 0 [.lst ((ents l).map entD)] rfl
/-! ### Ledger.statements -/
def spec_statementsM (lvs : List LV) (R : List PyData → List LV → Prop) : Prop := ∃ (d : Addr) (l : Led) (n : Int), lvs = [.L d (itsL l) n] ∧ LedOk l n ∧ R ((stas l).map staD) [.L d (itsL l) n]
theorem len_statementsM {lvs : List LV} {R : List PyData → List LV → Prop} (h : spec_statementsM lvs R) : (pvL 0 lvs).length = 1 := by
  obtain ⟨_, _, _, rfl, _⟩ := h; rfl
theorem ok_M_statements (T : Top K w mg cC aI dI a_u_law_bag d_u_law_bag a_u_law_take d_u_law_take a_u_law_part d_u_law_part a_u_law_lowest d_u_law_lowest a_u_law_amount d_u_law_amount a_u_law_entry d_u_law_entry a_u_law_entries d_u_law_entries a_u_law_grain d_u_law_grain a_u_law_stretch d_u_law_stretch a_u_law_before d_u_law_before a_u_law_told d_u_law_told a_u_law_statements d_u_law_statements a_u_law_case d_u_law_case a_u_law_days d_u_law_days a_is_integer_kinds d_is_integer_kinds a_is_within d_is_within a_is_day d_is_day a_is_stretch d_is_stretch a_is_integer_ratios d_is_integer_ratios a_common d_common a_is_ratio d_is_ratio a_is_amount d_is_amount a_are_amounts d_are_amounts a_wrong_part d_wrong_part a_check_item d_check_item a_M_numbered d_M_numbered a_M_of_kind d_M_of_kind a_M_add d_M_add a_M_need d_M_need a_M_drop d_M_drop a_u_law_ledger d_u_law_ledger a_lowest d_lowest a_grain_of d_grain_of a_as_ratios d_as_ratios a_meet d_meet a_arc_of d_arc_of a_given_before d_given_before a_units_before d_units_before a_greater_arc d_greater_arc a_lesser_number d_lesser_number a_outside d_outside a_allowed_units d_allowed_units a_left_units d_left_units a_M_entries d_M_entries a_M_statements d_M_statements a_left d_left a_u_law_near d_u_law_near a_is_cut d_is_cut a_check_cut d_check_cut a_check_stretch d_check_stretch a_floor_of d_floor_of a_plus d_plus a_check_day d_check_day a_sum_before d_sum_before a_total_by d_total_by a_told d_told a_parts_of d_parts_of a_numbers d_numbers a_u_law_right d_u_law_right a_law d_law) (G_M_of_kind : FnOkG P w K mg base 2 a_M_of_kind d_M_of_kind ["self", "kind"] (upF K (gN spec_of_kind))) :
    FnOkG P w K mg base 3 a_M_statements d_M_statements ["self"] (upF K (gN spec_statementsM)) := by
  refine okP (k := 2) T.F_M_statements sc_M_statements (n := 1) rfl ?len (fun cdv A outer s H E hr hgs => (wss_one (ws_retN (w_mN T.L ⟨by decide +kernel, by decide +kernel⟩ (w_var 0) T.me_M_of_kind G_M_of_kind hr hgs T.b_M_of_kind (wa_cons (w_cst T.w_STATEMENT (by rfl)) wa_nil) (fun t u h h2 => pe_methG h T.L.cl T.me_M_of_kind G_M_of_kind hr hgs T.b_M_of_kind .nil h2))))) ?body
  case len =>
    rintro args S R ⟨lvs, R0, rfl, rfl, h, q⟩
    exact len_statementsM h
  case body =>
    rintro args S R ⟨lvs, R0, rfl, rfl, h, q⟩
    obtain ⟨d, l, n, rfl, ok, hR⟩ := h
    walk_at "n"
    refine ⟨rfl, d, l, n, _, rfl, ok, ?_⟩
    walk_at "n"
    rw [ofKind_s]
    walk_at "n"
    exact q _ _ hR 0 [.lst ((stas l).map staD)] rfl
/-! ### left -/
def spec_left (lvs : List LV) (R : List PyData → List LV → Prop) : Prop := ∃ (d : Addr) (l : Led) (n : Int), lvs = [.L d (itsL l) n] ∧ LedOk l n ∧
  ∀ sp, IsSet (grain (ents l)) (Sat (ents l) (grain (ents l)) (stas l)) sp → sp.length ≤ 1 + 3 * (stas l).length → R (sp.map (spanD (grain (ents l)))) [.L d (itsL l) n]
theorem len_left {lvs : List LV} {R : List PyData → List LV → Prop} (h : spec_left lvs R) : (pvL 0 lvs).length = 1 := by
  obtain ⟨_, _, _, rfl, _⟩ := h; rfl
theorem ok_left (T : Top K w mg cC aI dI a_u_law_bag d_u_law_bag a_u_law_take d_u_law_take a_u_law_part d_u_law_part a_u_law_lowest d_u_law_lowest a_u_law_amount d_u_law_amount a_u_law_entry d_u_law_entry a_u_law_entries d_u_law_entries a_u_law_grain d_u_law_grain a_u_law_stretch d_u_law_stretch a_u_law_before d_u_law_before a_u_law_told d_u_law_told a_u_law_statements d_u_law_statements a_u_law_case d_u_law_case a_u_law_days d_u_law_days a_is_integer_kinds d_is_integer_kinds a_is_within d_is_within a_is_day d_is_day a_is_stretch d_is_stretch a_is_integer_ratios d_is_integer_ratios a_common d_common a_is_ratio d_is_ratio a_is_amount d_is_amount a_are_amounts d_are_amounts a_wrong_part d_wrong_part a_check_item d_check_item a_M_numbered d_M_numbered a_M_of_kind d_M_of_kind a_M_add d_M_add a_M_need d_M_need a_M_drop d_M_drop a_u_law_ledger d_u_law_ledger a_lowest d_lowest a_grain_of d_grain_of a_as_ratios d_as_ratios a_meet d_meet a_arc_of d_arc_of a_given_before d_given_before a_units_before d_units_before a_greater_arc d_greater_arc a_lesser_number d_lesser_number a_outside d_outside a_allowed_units d_allowed_units a_left_units d_left_units a_M_entries d_M_entries a_M_statements d_M_statements a_left d_left a_u_law_near d_u_law_near a_is_cut d_is_cut a_check_cut d_check_cut a_check_stretch d_check_stretch a_floor_of d_floor_of a_plus d_plus a_check_day d_check_day a_sum_before d_sum_before a_total_by d_total_by a_told d_told a_parts_of d_parts_of a_numbers d_numbers a_u_law_right d_u_law_right a_law d_law) (G_grain_of : FnOkG P w K mg base 3 a_grain_of d_grain_of ["entries"] (upF K (pur spec_grain))) (G_as_ratios : FnOkG P w K mg base 3 a_as_ratios d_as_ratios ["spans", "grain"] (upF K (newF spec_as_ratios))) (G_left_units : FnOkG P w K mg base 5 a_left_units d_left_units ["entries", "statements", "grain"] (upF K (pur spec_left_units))) (G_M_entries : FnOkG P w K mg base 3 a_M_entries d_M_entries ["self"] (upF K (gN spec_entriesM))) (G_M_statements : FnOkG P w K mg base 3 a_M_statements d_M_statements ["self"] (upF K (gN spec_statementsM))) :
    FnOkG P w K mg base 6 a_left d_left ["ledger"] (upF K (gN spec_left)) := by
  refine okP (k := 5) T.F_left sc_left (n := 2) rfl ?len (fun cdv A outer s H E hr hgs => (wss_consB (ws_set (i := 1) sc_left.nd rfl (.inl rfl) (w_call G_grain_of (hr.mono (by decide)) hgs (by rfl) T.g_grain_of T.F_grain_of.kp T.b_grain_of (wa_cons (w_ne (w_mN0 T.L ⟨by decide +kernel, by decide +kernel⟩ (w_var 0) (fun t h => pe_methG0 h T.L.cl T.me_M_entries G_M_entries (hr.mono (by decide)) hgs T.b_M_entries .nil))) wa_nil)))
      (wss_one (ws_retN (w_callN G_as_ratios (hr.mono (by decide)) hgs (by rfl) T.g_as_ratios T.F_as_ratios.kp T.b_as_ratios (wa_cons (w_call G_left_units hr hgs (by rfl) T.g_left_units T.F_left_units.kp T.b_left_units (wa_cons (w_ne (w_mN0 T.L ⟨by decide +kernel, by decide +kernel⟩ (w_var 0) (fun t h => pe_methG0 h T.L.cl T.me_M_entries G_M_entries (hr.mono (by decide)) hgs T.b_M_entries .nil))) (wa_cons (w_ne (w_mN0 T.L ⟨by decide +kernel, by decide +kernel⟩ (w_var 0) (fun t h => pe_methG0 h T.L.cl T.me_M_statements G_M_statements (hr.mono (by decide)) hgs T.b_M_statements .nil))) (wa_cons (w_var 1) wa_nil)))) (wa_cons (w_var 1) wa_nil))))))) ?body
  case len =>
    rintro args S R ⟨lvs, R0, rfl, rfl, h, q⟩
    exact len_left h
  case body =>
    rintro args S R ⟨lvs, R0, rfl, rfl, h, q⟩
    obtain ⟨d, l, n, rfl, ok, hR⟩ := h
    have hes := ok.entsOk
    have hl : (ents l).length ≤ 8 := by have := ok.ne; omega
    have hg := grain_ok hes hl
    have hns := ok.ns
    walk_at "n"
    refine ⟨rfl, d, l, n, rfl, ok, ?_⟩
    walk_at "n"
    refine ⟨ents l, rfl, hes, hl, ?_⟩
    walk_at "n"
    refine ⟨rfl, d, l, n, rfl, ok, ?_⟩
    walk_at "n"
    refine ⟨rfl, d, l, n, rfl, ok, ?_⟩
    walk_at "n"
    refine ⟨ents l, stas l, _, rfl, hes, hl, hg.pos, hg.big, by omega, fun sp hsp hspl => ?_⟩
    refine ⟨sp, _, rfl, by omega, hg.pos, hg.big, ?_⟩
    walk_at "n"
    exact q _ _ (hR sp hsp hspl) 0 [.lst (sp.map (spanD (grain (ents l))))] rfl
/-! ### _law_near -/
def spec_near48 (ds : List PyData) (R : PyData → Prop) : Prop := ∃ (es : List Ent) (ns : List Int) (g : Int), ds = [.list (es.map entD), .list (ns.map PyData.int), .int g] ∧ (∀ e ∈ es, EntOk e) ∧ es.length ≤ 8 ∧ GrOk es g ∧ ns.length ≤ 1000 ∧ (∀ n ∈ ns, n.natAbs ≤ 2 ^ 925) ∧
  ∀ b : Bool, (b = true ↔ NearAll es g ns) → R (.bool b)
theorem len_near48 {ds : List PyData} {R : PyData → Prop} (h : spec_near48 ds R) : (dA ds).length = 3 := by
  obtain ⟨_, _, _, rfl, _⟩ := h; rfl
theorem ok_u_law_near (T : Top K w mg cC aI dI a_u_law_bag d_u_law_bag a_u_law_take d_u_law_take a_u_law_part d_u_law_part a_u_law_lowest d_u_law_lowest a_u_law_amount d_u_law_amount a_u_law_entry d_u_law_entry a_u_law_entries d_u_law_entries a_u_law_grain d_u_law_grain a_u_law_stretch d_u_law_stretch a_u_law_before d_u_law_before a_u_law_told d_u_law_told a_u_law_statements d_u_law_statements a_u_law_case d_u_law_case a_u_law_days d_u_law_days a_is_integer_kinds d_is_integer_kinds a_is_within d_is_within a_is_day d_is_day a_is_stretch d_is_stretch a_is_integer_ratios d_is_integer_ratios a_common d_common a_is_ratio d_is_ratio a_is_amount d_is_amount a_are_amounts d_are_amounts a_wrong_part d_wrong_part a_check_item d_check_item a_M_numbered d_M_numbered a_M_of_kind d_M_of_kind a_M_add d_M_add a_M_need d_M_need a_M_drop d_M_drop a_u_law_ledger d_u_law_ledger a_lowest d_lowest a_grain_of d_grain_of a_as_ratios d_as_ratios a_meet d_meet a_arc_of d_arc_of a_given_before d_given_before a_units_before d_units_before a_greater_arc d_greater_arc a_lesser_number d_lesser_number a_outside d_outside a_allowed_units d_allowed_units a_left_units d_left_units a_M_entries d_M_entries a_M_statements d_M_statements a_left d_left a_u_law_near d_u_law_near a_is_cut d_is_cut a_check_cut d_check_cut a_check_stretch d_check_stretch a_floor_of d_floor_of a_plus d_plus a_check_day d_check_day a_sum_before d_sum_before a_total_by d_total_by a_told d_told a_parts_of d_parts_of a_numbers d_numbers a_u_law_right d_u_law_right a_law d_law) (G_u_law_before : FnOkG P w K mg base 1 a_u_law_before d_u_law_before ["entries", "day", "grain"] (upF K (pur spec_beforeL))) :
    FnOkG P w K mg base 2 a_u_law_near d_u_law_near ["entries", "found", "grain"] (upF K (pur spec_near48)) := by
  refine okP (k := 1) T.F_u_law_near sc_u_law_near (n := 6) rfl ?len (fun cdv A outer s H E hr hgs => (wss_consB (ws_for PassesOwn.never rfl (wi_range2 (by rfl) T.m_range (wa_cons w_int (wa_cons (w_add (w_bi ok_len (wa_cons (w_var 1) wa_nil) (fun t h => pe_callB (call_len_seq.or call_len_str) (by rfl) T.m_len (by decide +kernel) h)) w_int) wa_nil))) (wg_name (i := 3) sc_u_law_near.nd rfl (.inl rfl)) (wss_one (ws_for PassesOwn.never rfl (wi_range1 (by rfl) T.m_range (wa_cons (w_var 3) wa_nil)) (wg_name (i := 4) sc_u_law_near.nd rfl (.inl rfl)) (wss_consB (ws_set (i := 5) sc_u_law_near.nd rfl (.inl rfl) (w_sub (w_call G_u_law_before hr hgs (by rfl) T.g_u_law_before T.F_u_law_before.kp T.b_u_law_before (wa_cons (w_var 0) (wa_cons (w_var 3) (wa_cons (w_var 2) wa_nil)))) (w_call G_u_law_before hr hgs (by rfl) T.g_u_law_before T.F_u_law_before.kp T.b_u_law_before (wa_cons (w_var 0) (wa_cons (w_var 4) (wa_cons (w_var 2) wa_nil))))))
      (wss_one (ws_if (wt_ge (w_bi ok_abs (wa_cons (w_sub (w_mul (w_bi ok_sum (wa_cons (w_ne (wn_slice (w_var 1) (wo_some (w_var 4)) (wo_some (w_var 3)))) wa_nil) (fun t h => pe_callB (cr_sum rfl) (by rfl) T.m_sum (by decide +kernel) h)) (w_var 2)) (w_var 5)) wa_nil) (fun t h => pe_callB call_abs (by rfl) T.m_abs (by decide +kernel) h)) (w_var 2)) (wss_one (ws_ret w_bl)) wss_nil))))))
      (wss_one (ws_ret w_bl)))) ?body
  case len =>
    rintro args S R ⟨rfl, ds, R0, rfl, h, q⟩
    exact len_near48 h
  case body =>
    rintro args S R ⟨rfl, ds, R0, rfl, h, q⟩
    obtain ⟨es, ns, g, rfl, hes, hl, hg, nl, nb, hR⟩ := h
    walk_at "n"
    rw [List.length_map]
    refine ⟨⟨by omega, by omega⟩, ?_⟩
    refine ⟨fun i ρ S => ∃ (o1 o2 o3 : Option PV), ρ = [some (.d (.list (es.map entD))), some (.d (.list (ns.map PyData.int))), some (.d (.int g)), o1, o2, o3] ∧ S = [] ∧ ∀ j k : Nat, k < j → j ≤ i → NearB es g ns k j, ⟨_, _, _, rfl, rfl, fun j k h1 h2 => absurd h1 (by omega)⟩, ?_, ?_⟩
    · rintro i d _ _ hd ⟨o1, o2, o3, rfl, rfl, hI⟩
      obtain ⟨rfl, hi⟩ := rngD_at hd
      have hin : i + 1 ≤ ns.length := by omega
      rw [show (1 : Int) + (i : Nat) = ((i + 1 : Nat) : Int) by omega]
      walk_at "n"
      refine ⟨⟨by omega, by omega⟩, ?_⟩
      refine ⟨fun j ρ S => ∃ (o2 o3 : Option PV), ρ = [some (.d (.list (es.map entD))), some (.d (.list (ns.map PyData.int))), some (.d (.int g)), some (.d (.int ((i + 1 : Nat) : Int))), o2, o3] ∧ S = [] ∧ ∀ k : Nat, k < j → NearB es g ns k (i + 1), ⟨_, _, rfl, rfl, fun k h => absurd h (by omega)⟩, ?_, ?_⟩
      · rintro k d _ _ hd ⟨o2, o3, rfl, rfl, hJ⟩
        obtain ⟨rfl, hk⟩ := rngD_at hd
        have hki : k < i + 1 := by omega
        rw [show (0 : Int) + (k : Nat) = ((k : Nat) : Int) by omega]
        have bs : ((((ns.drop k).take (i + 1 - k)).sum)).natAbs < 2 ^ 940 := by
          have h1 := preS_bd (ns := (ns.drop k).take (i + 1 - k)) fun n hn => nb n (List.mem_of_mem_drop (List.mem_of_mem_take hn))
          refine Nat.lt_of_le_of_lt h1 (Nat.lt_of_le_of_lt (Nat.mul_le_mul_right _ (show _ ≤ 1000 from ?_)) (by decide))
          rw [List.length_take, List.length_drop]; omega
        walk_at "n"
        refine ⟨es, ((i + 1 : Nat) : Int), g, rfl, hes, hl, hg, ?_⟩
        walk_at "n"
        refine ⟨es, ((k : Nat) : Int), g, rfl, hes, hl, hg, ?_⟩
        walk_at "n"
        rw [cut_run (by omega) hin, Pu.intsD_map]
        walk_at "n"
        refine ⟨mulP (m := 940) (n := 700) bs hg.big, ?_⟩
        walk_at "n"
        rw [run_sum (by omega)]
        refine brD (fun h1 => ?_) (fun h1 => ?_)
        · walk_at "n"
          exact q _ (hR false ⟨fun h => (by cases h), fun hn => by
            have := hn (i + 1) k hki hin
            unfold NearB at this
            omega⟩) _
        · walk_at "n"
          refine .inl ⟨_, _, rfl, rfl, fun k' hk' => ?_⟩
          by_cases e : k' = k
          · subst e; unfold NearB; omega
          · exact hJ k' (by omega)
      · rintro _ _ ⟨o2, o3, rfl, rfl, hJ⟩
        rw [rngD_len] at hJ
        walk_at "n"
        refine .inl ⟨_, _, _, rfl, rfl, fun j k h1 h2 => ?_⟩
        by_cases e : j = i + 1
        · subst e; exact hJ k (by omega)
        · exact hI j k h1 (by omega)
    · rintro _ _ ⟨o1, o2, o3, rfl, rfl, hI⟩
      rw [rngD_len] at hI
      walk_at "n"
      exact q _ (hR true ⟨fun _ j k h1 h2 => hI j k h1 (by omega), fun _ => rfl⟩) _
/-! ### is_cut -/
def cutB : PyData → Bool
  | .tuple [.int a, .int b] => ratioB (.tuple [.int a, .int b]) && (decide (0 ≤ a) && decide (a < b))
  | _ => false
def spec_is_cut (ds : List PyData) (R : PyData → Prop) : Prop := ∃ x : PyData, ds = [x] ∧ R (.bool (cutB x))
theorem len_is_cut {ds : List PyData} {R : PyData → Prop} (h : spec_is_cut ds R) : (dA ds).length = 1 := by
  obtain ⟨_, rfl, _⟩ := h; rfl
theorem ratio_form {x : PyData} (h : ratioB x = true) : ∃ a b : Int, x = .tuple [.int a, .int b] ∧ RatOk a b := by
  unfold ratioB at h
  split at h
  · rename_i a b
    simp only [Bool.and_eq_true, decide_eq_true_eq] at h
    exact ⟨a, b, rfl, h.1, by have := h.2; omega⟩
  · cases h
theorem cut_no {x : PyData} (h : ratioB x = false) : cutB x = false := by
  unfold cutB
  split
  · rw [h]; rfl
  · rfl
theorem ok_is_cut (T : Top K w mg cC aI dI a_u_law_bag d_u_law_bag a_u_law_take d_u_law_take a_u_law_part d_u_law_part a_u_law_lowest d_u_law_lowest a_u_law_amount d_u_law_amount a_u_law_entry d_u_law_entry a_u_law_entries d_u_law_entries a_u_law_grain d_u_law_grain a_u_law_stretch d_u_law_stretch a_u_law_before d_u_law_before a_u_law_told d_u_law_told a_u_law_statements d_u_law_statements a_u_law_case d_u_law_case a_u_law_days d_u_law_days a_is_integer_kinds d_is_integer_kinds a_is_within d_is_within a_is_day d_is_day a_is_stretch d_is_stretch a_is_integer_ratios d_is_integer_ratios a_common d_common a_is_ratio d_is_ratio a_is_amount d_is_amount a_are_amounts d_are_amounts a_wrong_part d_wrong_part a_check_item d_check_item a_M_numbered d_M_numbered a_M_of_kind d_M_of_kind a_M_add d_M_add a_M_need d_M_need a_M_drop d_M_drop a_u_law_ledger d_u_law_ledger a_lowest d_lowest a_grain_of d_grain_of a_as_ratios d_as_ratios a_meet d_meet a_arc_of d_arc_of a_given_before d_given_before a_units_before d_units_before a_greater_arc d_greater_arc a_lesser_number d_lesser_number a_outside d_outside a_allowed_units d_allowed_units a_left_units d_left_units a_M_entries d_M_entries a_M_statements d_M_statements a_left d_left a_u_law_near d_u_law_near a_is_cut d_is_cut a_check_cut d_check_cut a_check_stretch d_check_stretch a_floor_of d_floor_of a_plus d_plus a_check_day d_check_day a_sum_before d_sum_before a_total_by d_total_by a_told d_told a_parts_of d_parts_of a_numbers d_numbers a_u_law_right d_u_law_right a_law d_law) (G_is_ratio : FnOkG P w K mg base 2 a_is_ratio d_is_ratio ["thing"] (upF K (pur spec_is_ratio))) :
    FnOkG P w K mg base 3 a_is_cut d_is_cut ["thing"] (upF K (pur spec_is_cut)) := by
  refine okP (k := 2) T.F_is_cut sc_is_cut (n := 1) rfl ?len (fun cdv A outer s H E hr hgs => (wss_one (ws_ret (we_and (w_call G_is_ratio hr hgs (by rfl) T.g_is_ratio T.F_is_ratio.kp T.b_is_ratio (wa_cons (w_var 0) wa_nil)) (we_one (w_chain okLe okLt m_I0 w_int (w_ix (w_var 0) w_int (fun _ _ => rfl)) (w_ix (w_var 0) w_int (fun _ _ => rfl)) (fun _ _ _ h1 h2 h3 => pe_chain op_le op_lt h1 h2 h3))))))) ?body
  case len =>
    rintro args S R ⟨rfl, ds, R0, rfl, h, q⟩
    exact len_is_cut h
  case body =>
    rintro args S R ⟨rfl, ds, R0, rfl, h, q⟩
    obtain ⟨x, rfl, hR⟩ := h
    walk_at "n"
    refine ⟨x, rfl, ?_⟩
    cases e : ratioB x with
    | false =>
      rw [cut_no e] at hR
      walk_at "n"
      exact q _ hR _
    | true =>
      obtain ⟨a, b, rfl, rok⟩ := ratio_form e
      have ec : cutB (.tuple [.int a, .int b]) = (decide (0 ≤ a) && decide (a < b)) := by
        show (ratioB _ && _) = _
        rw [e]; rfl
      rw [ec] at hR
      walk_at "n"
      refine brD (fun h1 => ?_) (fun h1 => ?_)
      · rw [decide_eq_true h1] at hR
        walk_at "n"
        exact q _ hR _
      · rw [decide_eq_false h1] at hR
        exact q _ hR _
/-! ### check_cut -/
theorem cut_yes {c e : Int} (h : RatOk c e) (h0 : 0 ≤ c) (h1 : c < e) : cutB (.tuple [.int c, .int e]) = true := by
  show (ratioB _ && (decide _ && decide _)) = true
  rw [ratB h, decide_eq_true h0, decide_eq_true h1]; rfl
def spec_check_cut (ds : List PyData) (R : PyData → Prop) : Prop := ∃ c e : Int, ds = [.tuple [.int c, .int e]] ∧ RatOk c e ∧ 0 ≤ c ∧ c < e ∧ R .none
theorem len_check_cut {ds : List PyData} {R : PyData → Prop} (h : spec_check_cut ds R) : (dA ds).length = 1 := by
  obtain ⟨_, _, rfl, _⟩ := h; rfl
theorem ok_check_cut (T : Top K w mg cC aI dI a_u_law_bag d_u_law_bag a_u_law_take d_u_law_take a_u_law_part d_u_law_part a_u_law_lowest d_u_law_lowest a_u_law_amount d_u_law_amount a_u_law_entry d_u_law_entry a_u_law_entries d_u_law_entries a_u_law_grain d_u_law_grain a_u_law_stretch d_u_law_stretch a_u_law_before d_u_law_before a_u_law_told d_u_law_told a_u_law_statements d_u_law_statements a_u_law_case d_u_law_case a_u_law_days d_u_law_days a_is_integer_kinds d_is_integer_kinds a_is_within d_is_within a_is_day d_is_day a_is_stretch d_is_stretch a_is_integer_ratios d_is_integer_ratios a_common d_common a_is_ratio d_is_ratio a_is_amount d_is_amount a_are_amounts d_are_amounts a_wrong_part d_wrong_part a_check_item d_check_item a_M_numbered d_M_numbered a_M_of_kind d_M_of_kind a_M_add d_M_add a_M_need d_M_need a_M_drop d_M_drop a_u_law_ledger d_u_law_ledger a_lowest d_lowest a_grain_of d_grain_of a_as_ratios d_as_ratios a_meet d_meet a_arc_of d_arc_of a_given_before d_given_before a_units_before d_units_before a_greater_arc d_greater_arc a_lesser_number d_lesser_number a_outside d_outside a_allowed_units d_allowed_units a_left_units d_left_units a_M_entries d_M_entries a_M_statements d_M_statements a_left d_left a_u_law_near d_u_law_near a_is_cut d_is_cut a_check_cut d_check_cut a_check_stretch d_check_stretch a_floor_of d_floor_of a_plus d_plus a_check_day d_check_day a_sum_before d_sum_before a_total_by d_total_by a_told d_told a_parts_of d_parts_of a_numbers d_numbers a_u_law_right d_u_law_right a_law d_law) (G_is_cut : FnOkG P w K mg base 3 a_is_cut d_is_cut ["thing"] (upF K (pur spec_is_cut))) :
    FnOkG P w K mg base 4 a_check_cut d_check_cut ["thing"] (upF K (pur spec_check_cut)) := by
  refine okP (k := 3) T.F_check_cut sc_check_cut (n := 1) rfl ?len (fun cdv A outer s H E hr hgs => (wss_one (ws_if (wt_not (w_val (w_call G_is_cut hr hgs (by rfl) T.g_is_cut T.F_is_cut.kp T.b_is_cut (wa_cons (w_var 0) wa_nil)))) (wss_one ws_never) wss_nil))) ?body
  case len =>
    rintro args S R ⟨rfl, ds, R0, rfl, h, q⟩
    exact len_check_cut h
  case body =>
    rintro args S R ⟨rfl, ds, R0, rfl, h, q⟩
    obtain ⟨c, e, rfl, rok, c0, ce, hR⟩ := h
    walk_at "n"
    refine ⟨_, rfl, ?_⟩
    rw [cut_yes rok c0 ce]
    walk_at "n"
    exact q _ hR _
/-! ### check_stretch -/
def spec_check_stretch (ds : List PyData) (R : PyData → Prop) : Prop := ∃ f m : Int, ds = [.tuple [.int f, .int m]] ∧ 0 ≤ f ∧ 1 ≤ m ∧ f + m ≤ 10 ^ 30 ∧ R .none
theorem len_check_stretch {ds : List PyData} {R : PyData → Prop} (h : spec_check_stretch ds R) : (dA ds).length = 1 := by
  obtain ⟨_, _, rfl, _⟩ := h; rfl
theorem stretch_yes {f m : Int} (h0 : 0 ≤ f) (h1 : 1 ≤ m) (h2 : f + m ≤ 10 ^ 30) : stretchB (.tuple [.int f, .int m]) = true := by
  show ((decide (0 ≤ f) && decide (f ≤ 10 ^ 30)) && (decide (1 ≤ m) && decide (m ≤ 10 ^ 30 - f))) = true
  rw [decide_eq_true h0, decide_eq_true h1, decide_eq_true (show f ≤ 10 ^ 30 by omega), decide_eq_true (show m ≤ 10 ^ 30 - f by omega)]; rfl
theorem ok_check_stretch (T : Top K w mg cC aI dI a_u_law_bag d_u_law_bag a_u_law_take d_u_law_take a_u_law_part d_u_law_part a_u_law_lowest d_u_law_lowest a_u_law_amount d_u_law_amount a_u_law_entry d_u_law_entry a_u_law_entries d_u_law_entries a_u_law_grain d_u_law_grain a_u_law_stretch d_u_law_stretch a_u_law_before d_u_law_before a_u_law_told d_u_law_told a_u_law_statements d_u_law_statements a_u_law_case d_u_law_case a_u_law_days d_u_law_days a_is_integer_kinds d_is_integer_kinds a_is_within d_is_within a_is_day d_is_day a_is_stretch d_is_stretch a_is_integer_ratios d_is_integer_ratios a_common d_common a_is_ratio d_is_ratio a_is_amount d_is_amount a_are_amounts d_are_amounts a_wrong_part d_wrong_part a_check_item d_check_item a_M_numbered d_M_numbered a_M_of_kind d_M_of_kind a_M_add d_M_add a_M_need d_M_need a_M_drop d_M_drop a_u_law_ledger d_u_law_ledger a_lowest d_lowest a_grain_of d_grain_of a_as_ratios d_as_ratios a_meet d_meet a_arc_of d_arc_of a_given_before d_given_before a_units_before d_units_before a_greater_arc d_greater_arc a_lesser_number d_lesser_number a_outside d_outside a_allowed_units d_allowed_units a_left_units d_left_units a_M_entries d_M_entries a_M_statements d_M_statements a_left d_left a_u_law_near d_u_law_near a_is_cut d_is_cut a_check_cut d_check_cut a_check_stretch d_check_stretch a_floor_of d_floor_of a_plus d_plus a_check_day d_check_day a_sum_before d_sum_before a_total_by d_total_by a_told d_told a_parts_of d_parts_of a_numbers d_numbers a_u_law_right d_u_law_right a_law d_law) (G_is_stretch : FnOkG P w K mg base 4 a_is_stretch d_is_stretch ["thing"] (upF K (pur spec_is_stretch))) :
    FnOkG P w K mg base 5 a_check_stretch d_check_stretch ["thing"] (upF K (pur spec_check_stretch)) := by
  refine okP (k := 4) T.F_check_stretch sc_check_stretch (n := 1) rfl ?len (fun cdv A outer s H E hr hgs => (wss_one (ws_if (wt_not (w_val (w_call G_is_stretch hr hgs (by rfl) T.g_is_stretch T.F_is_stretch.kp T.b_is_stretch (wa_cons (w_var 0) wa_nil)))) (wss_one ws_never) wss_nil))) ?body
  case len =>
    rintro args S R ⟨rfl, ds, R0, rfl, h, q⟩
    exact len_check_stretch h
  case body =>
    rintro args S R ⟨rfl, ds, R0, rfl, h, q⟩
    obtain ⟨f, m, rfl, f0, m1, fm, hR⟩ := h
    walk_at "n"
    refine ⟨_, rfl, ?_⟩
    rw [stretch_yes f0 m1 fm]
    walk_at "n"
    exact q _ hR _
/-! ### floor_of -/

theorem ok_floor_of (T : Top K w mg cC aI dI a_u_law_bag d_u_law_bag a_u_law_take d_u_law_take a_u_law_part d_u_law_part a_u_law_lowest d_u_law_lowest a_u_law_amount d_u_law_amount a_u_law_entry d_u_law_entry a_u_law_entries d_u_law_entries a_u_law_grain d_u_law_grain a_u_law_stretch d_u_law_stretch a_u_law_before d_u_law_before a_u_law_told d_u_law_told a_u_law_statements d_u_law_statements a_u_law_case d_u_law_case a_u_law_days d_u_law_days a_is_integer_kinds d_is_integer_kinds a_is_within d_is_within a_is_day d_is_day a_is_stretch d_is_stretch a_is_integer_ratios d_is_integer_ratios a_common d_common a_is_ratio d_is_ratio a_is_amount d_is_amount a_are_amounts d_are_amounts a_wrong_part d_wrong_part a_check_item d_check_item a_M_numbered d_M_numbered a_M_of_kind d_M_of_kind a_M_add d_M_add a_M_need d_M_need a_M_drop d_M_drop a_u_law_ledger d_u_law_ledger a_lowest d_lowest a_grain_of d_grain_of a_as_ratios d_as_ratios a_meet d_meet a_arc_of d_arc_of a_given_before d_given_before a_units_before d_units_before a_greater_arc d_greater_arc a_lesser_number d_lesser_number a_outside d_outside a_allowed_units d_allowed_units a_left_units d_left_units a_M_entries d_M_entries a_M_statements d_M_statements a_left d_left a_u_law_near d_u_law_near a_is_cut d_is_cut a_check_cut d_check_cut a_check_stretch d_check_stretch a_floor_of d_floor_of a_plus d_plus a_check_day d_check_day a_sum_before d_sum_before a_total_by d_total_by a_told d_told a_parts_of d_parts_of a_numbers d_numbers a_u_law_right d_u_law_right a_law d_law)  :
    FnOkG P w K mg base 1 a_floor_of d_floor_of ["ratio"] (upF K (pur (spec_rat 3900 floorD))) := by
  refine okP (k := 0) T.F_floor_of sc_floor_of (n := 1) rfl ?len (fun cdv A outer s H E hr hgs => (wss_one (ws_ret (w_fdiv (w_ix (w_var 0) w_int (fun _ _ => rfl)) (w_ix (w_var 0) w_int (fun _ _ => rfl)))))) ?body
  case len =>
    rintro args S R ⟨rfl, ds, R0, rfl, h, q⟩
    exact len_rat h
  case body =>
    rintro args S R ⟨rfl, ds, R0, rfl, h, q⟩
    obtain ⟨a, b, rfl, h1, ⟨ba, bb⟩, hR⟩ := h
    exact ⟨⟨h1, logP (lt_up bb (by decide : 3900 ≤ 8000))⟩, q _ hR []⟩
/-! ### plus -/

theorem ok_plus (T : Top K w mg cC aI dI a_u_law_bag d_u_law_bag a_u_law_take d_u_law_take a_u_law_part d_u_law_part a_u_law_lowest d_u_law_lowest a_u_law_amount d_u_law_amount a_u_law_entry d_u_law_entry a_u_law_entries d_u_law_entries a_u_law_grain d_u_law_grain a_u_law_stretch d_u_law_stretch a_u_law_before d_u_law_before a_u_law_told d_u_law_told a_u_law_statements d_u_law_statements a_u_law_case d_u_law_case a_u_law_days d_u_law_days a_is_integer_kinds d_is_integer_kinds a_is_within d_is_within a_is_day d_is_day a_is_stretch d_is_stretch a_is_integer_ratios d_is_integer_ratios a_common d_common a_is_ratio d_is_ratio a_is_amount d_is_amount a_are_amounts d_are_amounts a_wrong_part d_wrong_part a_check_item d_check_item a_M_numbered d_M_numbered a_M_of_kind d_M_of_kind a_M_add d_M_add a_M_need d_M_need a_M_drop d_M_drop a_u_law_ledger d_u_law_ledger a_lowest d_lowest a_grain_of d_grain_of a_as_ratios d_as_ratios a_meet d_meet a_arc_of d_arc_of a_given_before d_given_before a_units_before d_units_before a_greater_arc d_greater_arc a_lesser_number d_lesser_number a_outside d_outside a_allowed_units d_allowed_units a_left_units d_left_units a_M_entries d_M_entries a_M_statements d_M_statements a_left d_left a_u_law_near d_u_law_near a_is_cut d_is_cut a_check_cut d_check_cut a_check_stretch d_check_stretch a_floor_of d_floor_of a_plus d_plus a_check_day d_check_day a_sum_before d_sum_before a_total_by d_total_by a_told d_told a_parts_of d_parts_of a_numbers d_numbers a_u_law_right d_u_law_right a_law d_law) (G_lowest : FnOkG P w K mg base 2 a_lowest d_lowest ["top", "under"] (upF K (pur spec_low))) :
    FnOkG P w K mg base 3 a_plus d_plus ["one", "other"] (upF K (pur (spec_two 3900 plusD))) := by
  refine okP (k := 2) T.F_plus sc_plus (n := 2) rfl ?len (fun cdv A outer s H E hr hgs => (wss_one (ws_ret (w_call G_lowest hr hgs (by rfl) T.g_lowest T.F_lowest.kp T.b_lowest (wa_cons (w_add (w_mul (w_ix (w_var 0) w_int (fun _ _ => rfl)) (w_ix (w_var 1) w_int (fun _ _ => rfl))) (w_mul (w_ix (w_var 1) w_int (fun _ _ => rfl)) (w_ix (w_var 0) w_int (fun _ _ => rfl)))) (wa_cons (w_mul (w_ix (w_var 0) w_int (fun _ _ => rfl)) (w_ix (w_var 1) w_int (fun _ _ => rfl))) wa_nil)))))) ?body
  case len =>
    rintro args S R ⟨rfl, ds, R0, rfl, h, q⟩
    exact len_two h
  case body =>
    rintro args S R ⟨rfl, ds, R0, rfl, h, q⟩
    obtain ⟨a, b, c, d, rfl, h1, h2, ⟨ba, bb, bc, bd⟩, hR⟩ := h
    walk_at "w"
    refine ⟨mulP ba bd, mulP bc bb, mulP bb bd, a * d + c * b, b * d, rfl, Int.mul_ne_zero h1 h2, mul_lt bb bd, ?_⟩
    exact q _ hR []
/-! ### check_day -/
def spec_check_day (ds : List PyData) (R : PyData → Prop) : Prop := ∃ d : Int, ds = [.int d] ∧ 0 ≤ d ∧ d ≤ 10 ^ 30 ∧ R .none
theorem len_check_day {ds : List PyData} {R : PyData → Prop} (h : spec_check_day ds R) : (dA ds).length = 1 := by
  obtain ⟨_, rfl, _⟩ := h; rfl
theorem ok_check_day (T : Top K w mg cC aI dI a_u_law_bag d_u_law_bag a_u_law_take d_u_law_take a_u_law_part d_u_law_part a_u_law_lowest d_u_law_lowest a_u_law_amount d_u_law_amount a_u_law_entry d_u_law_entry a_u_law_entries d_u_law_entries a_u_law_grain d_u_law_grain a_u_law_stretch d_u_law_stretch a_u_law_before d_u_law_before a_u_law_told d_u_law_told a_u_law_statements d_u_law_statements a_u_law_case d_u_law_case a_u_law_days d_u_law_days a_is_integer_kinds d_is_integer_kinds a_is_within d_is_within a_is_day d_is_day a_is_stretch d_is_stretch a_is_integer_ratios d_is_integer_ratios a_common d_common a_is_ratio d_is_ratio a_is_amount d_is_amount a_are_amounts d_are_amounts a_wrong_part d_wrong_part a_check_item d_check_item a_M_numbered d_M_numbered a_M_of_kind d_M_of_kind a_M_add d_M_add a_M_need d_M_need a_M_drop d_M_drop a_u_law_ledger d_u_law_ledger a_lowest d_lowest a_grain_of d_grain_of a_as_ratios d_as_ratios a_meet d_meet a_arc_of d_arc_of a_given_before d_given_before a_units_before d_units_before a_greater_arc d_greater_arc a_lesser_number d_lesser_number a_outside d_outside a_allowed_units d_allowed_units a_left_units d_left_units a_M_entries d_M_entries a_M_statements d_M_statements a_left d_left a_u_law_near d_u_law_near a_is_cut d_is_cut a_check_cut d_check_cut a_check_stretch d_check_stretch a_floor_of d_floor_of a_plus d_plus a_check_day d_check_day a_sum_before d_sum_before a_total_by d_total_by a_told d_told a_parts_of d_parts_of a_numbers d_numbers a_u_law_right d_u_law_right a_law d_law) (G_is_day : FnOkG P w K mg base 3 a_is_day d_is_day ["thing"] (upF K (pur spec_is_day))) :
    FnOkG P w K mg base 4 a_check_day d_check_day ["thing"] (upF K (pur spec_check_day)) := by
  refine okP (k := 3) T.F_check_day sc_check_day (n := 1) rfl ?len (fun cdv A outer s H E hr hgs => (wss_one (ws_if (wt_not (w_val (w_call G_is_day hr hgs (by rfl) T.g_is_day T.F_is_day.kp T.b_is_day (wa_cons (w_var 0) wa_nil)))) (wss_one ws_never) wss_nil))) ?body
  case len =>
    rintro args S R ⟨rfl, ds, R0, rfl, h, q⟩
    exact len_check_day h
  case body =>
    rintro args S R ⟨rfl, ds, R0, rfl, h, q⟩
    obtain ⟨d, rfl, d0, d1, hR⟩ := h
    walk_at "n"
    refine ⟨_, rfl, ?_⟩
    rw [show withinB (.int d) 0 (10 ^ 30) = true from by show (decide (0 ≤ d) && decide (d ≤ 10 ^ 30)) = _; rw [decide_eq_true d0, decide_eq_true d1]; rfl]
    walk_at "n"
    exact q _ hR _
/-! ### sum_before -/
def spec_sum_before (ds : List PyData) (R : PyData → Prop) : Prop := ∃ (es : List Ent) (d : Int), ds = [.list (es.map entD), .int d] ∧ (∀ e ∈ es, EntOk e) ∧ es.length ≤ 8 ∧ 0 ≤ d ∧ d ≤ 10 ^ 30 ∧ R (lowD (before es (grain es) d) (grain es))
theorem len_sum_before {ds : List PyData} {R : PyData → Prop} (h : spec_sum_before ds R) : (dA ds).length = 2 := by
  obtain ⟨_, _, rfl, _⟩ := h; rfl
theorem ok_sum_before (T : Top K w mg cC aI dI a_u_law_bag d_u_law_bag a_u_law_take d_u_law_take a_u_law_part d_u_law_part a_u_law_lowest d_u_law_lowest a_u_law_amount d_u_law_amount a_u_law_entry d_u_law_entry a_u_law_entries d_u_law_entries a_u_law_grain d_u_law_grain a_u_law_stretch d_u_law_stretch a_u_law_before d_u_law_before a_u_law_told d_u_law_told a_u_law_statements d_u_law_statements a_u_law_case d_u_law_case a_u_law_days d_u_law_days a_is_integer_kinds d_is_integer_kinds a_is_within d_is_within a_is_day d_is_day a_is_stretch d_is_stretch a_is_integer_ratios d_is_integer_ratios a_common d_common a_is_ratio d_is_ratio a_is_amount d_is_amount a_are_amounts d_are_amounts a_wrong_part d_wrong_part a_check_item d_check_item a_M_numbered d_M_numbered a_M_of_kind d_M_of_kind a_M_add d_M_add a_M_need d_M_need a_M_drop d_M_drop a_u_law_ledger d_u_law_ledger a_lowest d_lowest a_grain_of d_grain_of a_as_ratios d_as_ratios a_meet d_meet a_arc_of d_arc_of a_given_before d_given_before a_units_before d_units_before a_greater_arc d_greater_arc a_lesser_number d_lesser_number a_outside d_outside a_allowed_units d_allowed_units a_left_units d_left_units a_M_entries d_M_entries a_M_statements d_M_statements a_left d_left a_u_law_near d_u_law_near a_is_cut d_is_cut a_check_cut d_check_cut a_check_stretch d_check_stretch a_floor_of d_floor_of a_plus d_plus a_check_day d_check_day a_sum_before d_sum_before a_total_by d_total_by a_told d_told a_parts_of d_parts_of a_numbers d_numbers a_u_law_right d_u_law_right a_law d_law) (G_check_day : FnOkG P w K mg base 4 a_check_day d_check_day ["thing"] (upF K (pur spec_check_day))) (G_grain_of : FnOkG P w K mg base 3 a_grain_of d_grain_of ["entries"] (upF K (pur spec_grain))) (G_lowest : FnOkG P w K mg base 2 a_lowest d_lowest ["top", "under"] (upF K (pur spec_low))) (G_units_before : FnOkG P w K mg base 2 a_units_before d_units_before ["entries", "day", "grain"] (upF K (pur spec_before))) :
    FnOkG P w K mg base 5 a_sum_before d_sum_before ["entries", "day"] (upF K (pur spec_sum_before)) := by
  refine okP (k := 4) T.F_sum_before sc_sum_before (n := 3) rfl ?len (fun cdv A outer s H E hr hgs => (wss_consB (ws_expr (w_call G_check_day hr hgs (by rfl) T.g_check_day T.F_check_day.kp T.b_check_day (wa_cons (w_var 1) wa_nil)))
      (wss_consB (ws_set (i := 2) sc_sum_before.nd rfl (.inl rfl) (w_call G_grain_of (hr.mono (by decide)) hgs (by rfl) T.g_grain_of T.F_grain_of.kp T.b_grain_of (wa_cons (w_var 0) wa_nil)))
      (wss_one (ws_ret (w_call G_lowest (hr.mono (by decide)) hgs (by rfl) T.g_lowest T.F_lowest.kp T.b_lowest (wa_cons (w_call G_units_before (hr.mono (by decide)) hgs (by rfl) T.g_units_before T.F_units_before.kp T.b_units_before (wa_cons (w_var 0) (wa_cons (w_var 1) (wa_cons (w_var 2) wa_nil)))) (wa_cons (w_var 2) wa_nil)))))))) ?body
  case len =>
    rintro args S R ⟨rfl, ds, R0, rfl, h, q⟩
    exact len_sum_before h
  case body =>
    rintro args S R ⟨rfl, ds, R0, rfl, h, q⟩
    obtain ⟨es, d, rfl, hes, hl, d0, d1, hR⟩ := h
    walk_at "n"
    refine ⟨d, rfl, d0, d1, ?_⟩
    walk_at "n"
    refine ⟨es, rfl, hes, hl, ?_⟩
    have hg := grain_ok hes hl
    walk_at "n"
    refine ⟨es, d, _, rfl, hes, hl, hg.big, ?_⟩
    refine ⟨_, _, rfl, Int.ne_of_gt hg.pos, lt_up hg.big (by decide), ?_⟩
    walk_at "n"
    exact q _ hR _
/-! ### what a cut tells -/
theorem floor_eq {a b t u : Int} (hb : 0 < b) (hu : 0 < u) (e : a * u = t * b) : a / b = t / u := by
  rw [← Int.mul_ediv_mul_of_pos_left a b hu, e, Int.mul_comm b u, Int.mul_ediv_mul_of_pos_left t u hb]
/-- what the cut c / e tells for the days before d -/
def totR (es : List Ent) (c e d : Int) : Int := (before es (grain es) d * e + c * grain es) / (grain es * e)
def toldR (es : List Ent) (c e i j : Int) : Int := totR es c e j - totR es c e i
structure CutOk (c e : Int) : Prop where
  rat : RatOk c e
  c0 : 0 ≤ c
  lt : c < e
  big : e.natAbs < 2 ^ 1900
theorem tot_of {es : List Ent} {c e d n m a b : Int} (g0 : 0 < grain es) (m0 : 0 < m) (e0 : 0 < e) (b0 : 0 < b) (h1 : n * grain es = before es (grain es) d * m) (h2 : a * (m * e) = (n * e + c * m) * b) : a / b = totR es c e d := by
  unfold totR
  generalize grain es = g at *
  generalize before es g d = B at *
  refine floor_eq b0 (Int.mul_pos g0 e0) ?_
  have hm : m ≠ 0 := Int.ne_of_gt m0
  refine Int.eq_of_mul_eq_mul_left hm ?_
  grind
theorem totR_perm {es fs : List Ent} {c e d : Int} (hes : ∀ e ∈ es, EntOk e) (p : fs.Perm es) : totR fs c e d = totR es c e d := by
  unfold totR; rw [grain_same hes fun e => p.mem_iff, before_perm p]
theorem fl_dist {x y w z : Int} (hw : 0 < w) : (x + z) / w * w - (y + z) / w * w - (x - y) < w ∧ -w < (x + z) / w * w - (y + z) / w * w - (x - y) := by
  have a1 := Int.mul_ediv_add_emod (x + z) w
  have a2 := Int.emod_nonneg (x + z) (Int.ne_of_gt hw)
  have a3 := Int.emod_lt_of_pos (x + z) hw
  have b1 := Int.mul_ediv_add_emod (y + z) w
  have b2 := Int.emod_nonneg (y + z) (Int.ne_of_gt hw)
  have b3 := Int.emod_lt_of_pos (y + z) hw
  rw [Int.mul_comm] at a1 b1
  omega
/-- it is less than one off the exact amount -/
theorem told_near {es : List Ent} {c e i j : Int} (g0 : 0 < grain es) (e0 : 0 < e) : toldR es c e i j * grain es - (before es (grain es) j - before es (grain es) i) < grain es ∧ -grain es < toldR es c e i j * grain es - (before es (grain es) j - before es (grain es) i) := by
  unfold toldR totR
  generalize grain es = g at *
  generalize before es g i = X
  generalize before es g j = Y
  have h := fl_dist (x := Y * e) (y := X * e) (z := c * g) (Int.mul_pos g0 e0)
  generalize (Y * e + c * g) / (g * e) = p at *
  generalize (X * e + c * g) / (g * e) = q at *
  have k1 : p * (g * e) - q * (g * e) - (Y * e - X * e) = ((p - q) * g - (Y - X)) * e := by grind
  rw [k1] at h
  refine ⟨?_, ?_⟩
  · exact Int.lt_of_mul_lt_mul_right h.1 (Int.le_of_lt e0)
  · refine Int.lt_of_mul_lt_mul_right (a := e) ?_ (Int.le_of_lt e0)
    have : -g * e = -(g * e) := Int.neg_mul ..
    rw [this]; exact h.2
theorem toldR_bd {es : List Ent} {c e i j : Int} (hes : ∀ e ∈ es, EntOk e) (hl : es.length ≤ 8) (e0 : 0 < e) : (toldR es c e i j).natAbs < 2 ^ 920 := by
  have hg := grain_ok hes hl
  have n := told_near (c := c) (i := i) (j := j) hg.pos e0
  have bb : ∀ d, (before es (grain es) d).natAbs < 2 ^ 910 := fun d => before_big hes hl hg.big d
  have b1 := sub_lt (m := 910) (k := 911) (bb j) (bb i)
  have g1 := hg.pos
  generalize before es (grain es) j - before es (grain es) i = z at *
  generalize toldR es c e i j = t at *
  generalize grain es = g at *
  have : t.natAbs ≤ z.natAbs + 1 := by
    have k : ∀ y : Int, 0 ≤ y → y ≤ y * g := fun y hy => by
      have := Int.mul_le_mul_of_nonneg_left (show (1 : Int) ≤ g by omega) hy
      omega
    rcases Int.le_total 0 t with h | h
    · have k1 : (t - 1) * g < z + 0 * g := by rw [Int.sub_mul]; omega
      by_cases h1 : t = 0
      · omega
      · have := k (t - 1) (by omega)
        omega
    · have k1 : z < (t + 1) * g := by rw [Int.add_mul]; omega
      by_cases h1 : t = 0
      · omega
      · have := k (-(t + 1)) (by omega)
        rw [Int.neg_mul] at this
        omega
  omega

/-! ### total_by -/
def spec_total_by (ds : List PyData) (R : PyData → Prop) : Prop := ∃ (es : List Ent) (c e d : Int), ds = [.list (es.map entD), .tuple [.int c, .int e], .int d] ∧ (∀ e ∈ es, EntOk e) ∧ es.length ≤ 8 ∧ CutOk c e ∧ 0 ≤ d ∧ d ≤ 10 ^ 30 ∧ R (.int (totR es c e d))
theorem len_total_by {ds : List PyData} {R : PyData → Prop} (h : spec_total_by ds R) : (dA ds).length = 3 := by
  obtain ⟨_, _, _, _, rfl, _⟩ := h; rfl
theorem ok_total_by (T : Top K w mg cC aI dI a_u_law_bag d_u_law_bag a_u_law_take d_u_law_take a_u_law_part d_u_law_part a_u_law_lowest d_u_law_lowest a_u_law_amount d_u_law_amount a_u_law_entry d_u_law_entry a_u_law_entries d_u_law_entries a_u_law_grain d_u_law_grain a_u_law_stretch d_u_law_stretch a_u_law_before d_u_law_before a_u_law_told d_u_law_told a_u_law_statements d_u_law_statements a_u_law_case d_u_law_case a_u_law_days d_u_law_days a_is_integer_kinds d_is_integer_kinds a_is_within d_is_within a_is_day d_is_day a_is_stretch d_is_stretch a_is_integer_ratios d_is_integer_ratios a_common d_common a_is_ratio d_is_ratio a_is_amount d_is_amount a_are_amounts d_are_amounts a_wrong_part d_wrong_part a_check_item d_check_item a_M_numbered d_M_numbered a_M_of_kind d_M_of_kind a_M_add d_M_add a_M_need d_M_need a_M_drop d_M_drop a_u_law_ledger d_u_law_ledger a_lowest d_lowest a_grain_of d_grain_of a_as_ratios d_as_ratios a_meet d_meet a_arc_of d_arc_of a_given_before d_given_before a_units_before d_units_before a_greater_arc d_greater_arc a_lesser_number d_lesser_number a_outside d_outside a_allowed_units d_allowed_units a_left_units d_left_units a_M_entries d_M_entries a_M_statements d_M_statements a_left d_left a_u_law_near d_u_law_near a_is_cut d_is_cut a_check_cut d_check_cut a_check_stretch d_check_stretch a_floor_of d_floor_of a_plus d_plus a_check_day d_check_day a_sum_before d_sum_before a_total_by d_total_by a_told d_told a_parts_of d_parts_of a_numbers d_numbers a_u_law_right d_u_law_right a_law d_law) (G_floor_of : FnOkG P w K mg base 1 a_floor_of d_floor_of ["ratio"] (upF K (pur (spec_rat 3900 floorD)))) (G_plus : FnOkG P w K mg base 3 a_plus d_plus ["one", "other"] (upF K (pur (spec_two 3900 plusD)))) (G_sum_before : FnOkG P w K mg base 5 a_sum_before d_sum_before ["entries", "day"] (upF K (pur spec_sum_before))) :
    FnOkG P w K mg base 6 a_total_by d_total_by ["entries", "cut", "day"] (upF K (pur spec_total_by)) := by
  refine okP (k := 5) T.F_total_by sc_total_by (n := 3) rfl ?len (fun cdv A outer s H E hr hgs => (wss_one (ws_ret (w_call G_floor_of (hr.mono (by decide)) hgs (by rfl) T.g_floor_of T.F_floor_of.kp T.b_floor_of (wa_cons (w_call G_plus (hr.mono (by decide)) hgs (by rfl) T.g_plus T.F_plus.kp T.b_plus (wa_cons (w_call G_sum_before hr hgs (by rfl) T.g_sum_before T.F_sum_before.kp T.b_sum_before (wa_cons (w_var 0) (wa_cons (w_var 2) wa_nil))) (wa_cons (w_var 1) wa_nil))) wa_nil))))) ?body
  case len =>
    rintro args S R ⟨rfl, ds, R0, rfl, h, q⟩
    exact len_total_by h
  case body =>
    rintro args S R ⟨rfl, ds, R0, rfl, h, q⟩
    obtain ⟨es, c, e, d, rfl, hes, hl, co, d0, d1, hR⟩ := h
    have hg := grain_ok hes hl
    have e0 := co.rat.1
    walk_at "n"
    refine ⟨es, d, rfl, hes, hl, d0, d1, ?_⟩
    obtain ⟨n, m, el, nok, h1, bn, bm⟩ := low_is (t := before es (grain es) d) (Int.ne_of_gt hg.pos)
    have bb := before_big hes hl hg.big d
    rw [el]
    have cb : c.natAbs < 2 ^ 1900 := by have := co.c0; have := co.lt; have := co.big; omega
    have b1 : n.natAbs < 2 ^ 910 := by omega
    have b2 : m.natAbs < 2 ^ 700 := by have := hg.big; omega
    walk_at "n"
    refine ⟨n, m, c, e, rfl, nok.ne, co.rat.ne, ⟨lt_up b1 (by decide), lt_up b2 (by decide), lt_up cb (by decide), lt_up co.big (by decide)⟩, ?_⟩
    obtain ⟨a, b, ea, aok, h2, ba, bb2⟩ := plus_is (a := n) (b := m) (c := c) (d := e) nok.ne co.rat.ne
    rw [ea]
    have k1 : (n * e + c * m).natAbs < 2 ^ 3000 := add_lt (m := 2810) (mul_lt b1 co.big (by decide)) (mul_lt cb b2 (by decide)) (by decide)
    have k2 : (m * e).natAbs < 2 ^ 2700 := mul_lt b2 co.big (by decide)
    walk_at "n"
    refine ⟨a, b, rfl, aok.1, ⟨lt_up (m := 3000) (by omega) (by decide), lt_up (m := 2700) (by omega) (by decide)⟩, ?_⟩
    rw [show floorD a b = .int (totR es c e d) from congrArg PyData.int (tot_of hg.pos nok.1 e0 aok.1 h1 h2)]
    walk_at "n"
    exact q _ hR _
/-! ### told -/
def spec_toldP (lvs : List LV) (R : PyData → List LV → Prop) : Prop := ∃ (d : Addr) (l : Led) (n c e f m : Int), lvs = [.L d (itsL l) n, .d (.tuple [.int c, .int e]), .d (.tuple [.int f, .int m])] ∧ LedOk l n ∧ CutOk c e ∧ 0 ≤ f ∧ 1 ≤ m ∧ f + m ≤ 10 ^ 30 ∧
  R (.int (toldR (ents l) c e f (f + m))) [.L d (itsL l) n, .d (.tuple [.int c, .int e]), .d (.tuple [.int f, .int m])]
theorem len_toldP {lvs : List LV} {R : PyData → List LV → Prop} (h : spec_toldP lvs R) : (pvL 0 lvs).length = 3 := by
  obtain ⟨_, _, _, _, _, _, _, rfl, _⟩ := h; rfl
theorem ok_told (T : Top K w mg cC aI dI a_u_law_bag d_u_law_bag a_u_law_take d_u_law_take a_u_law_part d_u_law_part a_u_law_lowest d_u_law_lowest a_u_law_amount d_u_law_amount a_u_law_entry d_u_law_entry a_u_law_entries d_u_law_entries a_u_law_grain d_u_law_grain a_u_law_stretch d_u_law_stretch a_u_law_before d_u_law_before a_u_law_told d_u_law_told a_u_law_statements d_u_law_statements a_u_law_case d_u_law_case a_u_law_days d_u_law_days a_is_integer_kinds d_is_integer_kinds a_is_within d_is_within a_is_day d_is_day a_is_stretch d_is_stretch a_is_integer_ratios d_is_integer_ratios a_common d_common a_is_ratio d_is_ratio a_is_amount d_is_amount a_are_amounts d_are_amounts a_wrong_part d_wrong_part a_check_item d_check_item a_M_numbered d_M_numbered a_M_of_kind d_M_of_kind a_M_add d_M_add a_M_need d_M_need a_M_drop d_M_drop a_u_law_ledger d_u_law_ledger a_lowest d_lowest a_grain_of d_grain_of a_as_ratios d_as_ratios a_meet d_meet a_arc_of d_arc_of a_given_before d_given_before a_units_before d_units_before a_greater_arc d_greater_arc a_lesser_number d_lesser_number a_outside d_outside a_allowed_units d_allowed_units a_left_units d_left_units a_M_entries d_M_entries a_M_statements d_M_statements a_left d_left a_u_law_near d_u_law_near a_is_cut d_is_cut a_check_cut d_check_cut a_check_stretch d_check_stretch a_floor_of d_floor_of a_plus d_plus a_check_day d_check_day a_sum_before d_sum_before a_total_by d_total_by a_told d_told a_parts_of d_parts_of a_numbers d_numbers a_u_law_right d_u_law_right a_law d_law) (G_check_cut : FnOkG P w K mg base 4 a_check_cut d_check_cut ["thing"] (upF K (pur spec_check_cut))) (G_check_stretch : FnOkG P w K mg base 5 a_check_stretch d_check_stretch ["thing"] (upF K (pur spec_check_stretch))) (G_total_by : FnOkG P w K mg base 6 a_total_by d_total_by ["entries", "cut", "day"] (upF K (pur spec_total_by))) (G_M_entries : FnOkG P w K mg base 3 a_M_entries d_M_entries ["self"] (upF K (gN spec_entriesM))) :
    FnOkG P w K mg base 7 a_told d_told ["ledger", "cut", "stretch"] (upF K (gD spec_toldP)) := by
  refine okP (k := 6) T.F_told sc_told (n := 6) rfl ?len (fun cdv A outer s H E hr hgs => (wss_consB (ws_expr (w_call G_check_cut (hr.mono (by decide)) hgs (by rfl) T.g_check_cut T.F_check_cut.kp T.b_check_cut (wa_cons (w_var 1) wa_nil)))
      (wss_consB (ws_expr (w_call G_check_stretch (hr.mono (by decide)) hgs (by rfl) T.g_check_stretch T.F_check_stretch.kp T.b_check_stretch (wa_cons (w_var 2) wa_nil)))
      (wss_consB (ws_asg (w_var 2) (wg_tup (n := 2) rfl (wgs_cons (wg_name (i := 3) sc_told.nd rfl (.inl rfl)) (wgs_cons (wg_name (i := 4) sc_told.nd rfl (.inl rfl)) wgs_nil))))
      (wss_consB (ws_set (i := 5) sc_told.nd rfl (.inl rfl) (w_ne (w_mN0 T.L ⟨by decide +kernel, by decide +kernel⟩ (w_var 0) (fun t h => pe_methG0 h T.L.cl T.me_M_entries G_M_entries (hr.mono (by decide)) hgs T.b_M_entries .nil))))
      (wss_one (ws_ret (w_sub (w_call G_total_by hr hgs (by rfl) T.g_total_by T.F_total_by.kp T.b_total_by (wa_cons (w_var 5) (wa_cons (w_var 1) (wa_cons (w_add (w_var 3) (w_var 4)) wa_nil)))) (w_call G_total_by hr hgs (by rfl) T.g_total_by T.F_total_by.kp T.b_total_by (wa_cons (w_var 5) (wa_cons (w_var 1) (wa_cons (w_var 3) wa_nil)))))))))))) ?body
  case len =>
    rintro args S R ⟨lvs, R0, rfl, rfl, h, q⟩
    exact len_toldP h
  case body =>
    rintro args S R ⟨lvs, R0, rfl, rfl, h, q⟩
    obtain ⟨d, l, n, c, e, f, m, rfl, ok, co, f0, m1, fm, hR⟩ := h
    have hl : (ents l).length ≤ 8 := by have := ok.ne; omega
    walk_at "n"
    refine ⟨c, e, rfl, co.rat, co.c0, co.lt, ?_⟩
    walk_at "n"
    refine ⟨f, m, rfl, f0, m1, fm, ?_⟩
    walk_at "n"
    refine ⟨rfl, d, l, n, rfl, ok, ?_⟩
    walk_at "n"
    refine ⟨ents l, c, e, f + m, rfl, ok.entsOk, hl, co, by omega, fm, ?_⟩
    refine ⟨ents l, c, e, f, rfl, ok.entsOk, hl, co, f0, by omega, ?_⟩
    walk_at "n"
    exact q _ _ hR []
/-! ### the possible numbers of a stretch, with their cuts -/
@[reducible] def partD (p : Int × List (Int × Int)) : PyData := .tuple [.int p.1, .list (p.2.map ratD)]
/-- the parts of what is left, by the number that they tell: at most two, none is empty -/
structure PartsOk (l : Led) (f m : Int) (ps : List (Int × List (Int × Int))) : Prop where
  one : ∀ p ∈ ps, p.2 ≠ [] ∧ p.2.length ≤ 1000 ∧ IsSet (grain (ents l)) (fun u => Sat (ents l) (grain (ents l)) (stas l) u ∧ toldBy (ents l) (grain (ents l)) u f (f + m) = p.1) p.2
  all : ∀ u, 0 ≤ u → u < grain (ents l) → Sat (ents l) (grain (ents l)) (stas l) u → toldBy (ents l) (grain (ents l)) u f (f + m) ∈ ps.map (·.1)
  asc : (ps.map (·.1)).Pairwise (· < ·)
  few : ps.length ≤ 2
  low : ∀ p ∈ ps, p.1 = lesser (before (ents l) (grain (ents l)) f) (before (ents l) (grain (ents l)) (f + m)) (grain (ents l)) ∨ p.1 = lesser (before (ents l) (grain (ents l)) f) (before (ents l) (grain (ents l)) (f + m)) (grain (ents l)) + 1
def fullP : PyData → Bool
  | .tuple [_, .list xs] => !xs.isEmpty
  | _ => false
def fullB (p : Int × List (Int × Int)) : Bool := !p.2.isEmpty
theorem full_D (ps : List (Int × List (Int × Int))) : ((ps.map partD).filter fullP).map id = (ps.filter fullB).map partD := by
  rw [List.map_id, List.filter_map]
  congr 1
  refine List.filter_congr fun p _ => ?_
  show (!(List.map ratD p.2).isEmpty) = !p.2.isEmpty
  cases p.2 <;> rfl
theorem Norm.ne {x : List (Int × Int)} {g : Int} (h : Norm 0 g x) (hx : x ≠ []) : ∃ u, memS x u := by
  cases x with
  | nil => exact absurd rfl hx
  | cons s r => exact ⟨s.1, memS_cons.mpr (.inl ⟨Int.le_refl _, h.2.1⟩)⟩
theorem told_two (es : List Ent) {g u f j : Int} (hg : 0 < g) (h0 : 0 ≤ u) (h1 : u < g) : toldBy es g u f j = lesser (before es g f) (before es g j) g ∨ toldBy es g u f j = lesser (before es g f) (before es g j) g + 1 := by
  have := told_is (before es g f) (before es g j) hg h0 h1
  unfold toldBy
  rw [this]
  split <;> omega
theorem parts_ok {l : Led} {n f m : Int} {sp : List (Int × Int)} (ok : LedOk l n) (hsp : IsSet (grain (ents l)) (Sat (ents l) (grain (ents l)) (stas l)) sp) (hl : sp.length ≤ 1 + 3 * (stas l).length) :
    PartsOk l f m ([(lesser (before (ents l) (grain (ents l)) f) (before (ents l) (grain (ents l)) (f + m)) (grain (ents l)), meetS sp (outS (arcS (ptU (before (ents l) (grain (ents l)) (f + m)) (grain (ents l))) (ptU (before (ents l) (grain (ents l)) f) (grain (ents l))) (grain (ents l))) (grain (ents l)))),
      (lesser (before (ents l) (grain (ents l)) f) (before (ents l) (grain (ents l)) (f + m)) (grain (ents l)) + 1, meetS sp (arcS (ptU (before (ents l) (grain (ents l)) (f + m)) (grain (ents l))) (ptU (before (ents l) (grain (ents l)) f) (grain (ents l))) (grain (ents l))))].filter fullB) := by
  have hg := grain_ok ok.entsOk (by have := ok.ne; omega)
  have hns := ok.ns
  have a1 := allowS_ok (before (ents l) (grain (ents l)) f) (before (ents l) (grain (ents l)) (f + m)) (lesser (before (ents l) (grain (ents l)) f) (before (ents l) (grain (ents l)) (f + m)) (grain (ents l))) hg.pos
  have a2 := allowS_ok (before (ents l) (grain (ents l)) f) (before (ents l) (grain (ents l)) (f + m)) (lesser (before (ents l) (grain (ents l)) f) (before (ents l) (grain (ents l)) (f + m)) (grain (ents l)) + 1) hg.pos
  unfold allowS at a1 a2
  rw [if_pos rfl] at a1
  rw [if_neg (by omega), if_pos rfl] at a2
  have tw : ∀ u, 0 ≤ u → u < grain (ents l) → _ := fun u h0 h1 => told_two (ents l) (f := f) (j := f + m) hg.pos h0 h1
  unfold toldBy at tw
  generalize outS (arcS (ptU (before (ents l) (grain (ents l)) (f + m)) (grain (ents l))) (ptU (before (ents l) (grain (ents l)) f) (grain (ents l))) (grain (ents l))) (grain (ents l)) = x1 at *
  generalize arcS (ptU (before (ents l) (grain (ents l)) (f + m)) (grain (ents l))) (ptU (before (ents l) (grain (ents l)) f) (grain (ents l))) (grain (ents l)) = x2 at *
  generalize hL : lesser (before (ents l) (grain (ents l)) f) (before (ents l) (grain (ents l)) (f + m)) (grain (ents l)) = L at *
  have i1 : IsSet (grain (ents l)) (fun u => toldBy (ents l) (grain (ents l)) u f (f + m) = L) x1 := ⟨a1.1, a1.2.1⟩
  have i2 : IsSet (grain (ents l)) (fun u => toldBy (ents l) (grain (ents l)) u f (f + m) = L + 1) x2 := ⟨a2.1, a2.2.1⟩
  have s1 := hsp.meet i1
  have s2 := hsp.meet i2
  have l1 := meet_len hsp.norm i1.norm
  have l2 := meet_len hsp.norm i2.norm
  have mem2 : ∀ p : Int × List (Int × Int), p ∈ [(L, meetS sp x1), (L + 1, meetS sp x2)] → p = (L, meetS sp x1) ∨ p = (L + 1, meetS sp x2) := fun p hp => by simpa using hp
  refine ⟨fun p hp => ?_, fun u h0 h1 hs => ?_, ?_, Nat.le_trans (List.length_filter_le _ _) (Nat.le_refl _), fun p hp => ?_⟩
  · rw [List.mem_filter] at hp
    obtain ⟨hp, hf⟩ := hp
    have ne : p.2 ≠ [] := fun e => by unfold fullB at hf; rw [e] at hf; simp at hf
    rcases mem2 p hp with rfl | rfl
    · exact ⟨ne, by have := a1.2.2; show (meetS sp x1).length ≤ _; omega, s1⟩
    · exact ⟨ne, by have := a2.2.2; show (meetS sp x2).length ≤ _; omega, s2⟩
  · have key : ∀ (z : Int) (x : List (Int × Int)), toldBy (ents l) (grain (ents l)) u f (f + m) = z → IsSet (grain (ents l)) (fun u => Sat (ents l) (grain (ents l)) (stas l) u ∧ toldBy (ents l) (grain (ents l)) u f (f + m) = z) x → (z, x) ∈ [(L, meetS sp x1), (L + 1, meetS sp x2)] → toldBy (ents l) (grain (ents l)) u f (f + m) ∈ (([(L, meetS sp x1), (L + 1, meetS sp x2)].filter fullB).map (·.1)) := fun z x e hx hm => by
      refine List.mem_map.mpr ⟨(z, x), List.mem_filter.mpr ⟨hm, ?_⟩, e.symm⟩
      have : memS x u := (hx.mem u).mpr ⟨⟨h0, h1⟩, hs, e⟩
      cases x with
      | nil => exact (memS_nil this).elim
      | cons _ _ => rfl
    rcases tw u h0 h1 with e | e
    · exact key _ _ e s1 (by simp)
    · exact key _ _ e s2 (by simp)
  · exact List.Pairwise.sublist (List.Sublist.map _ List.filter_sublist) (show ([L, L + 1] : List Int).Pairwise (· < ·) by simp; omega)
  · rcases mem2 p (List.mem_filter.mp hp).1 with rfl | rfl
    · exact .inl hL.symm
    · exact .inr (by rw [hL])

/-! ### parts_of -/
def spec_parts (lvs : List LV) (R : PyData → List LV → Prop) : Prop := ∃ (d : Addr) (l : Led) (n f m : Int), lvs = [.L d (itsL l) n, .d (.tuple [.int f, .int m])] ∧ LedOk l n ∧ 0 ≤ f ∧ 1 ≤ m ∧ f + m ≤ 10 ^ 30 ∧
  ∀ ps, PartsOk l f m ps → R (.tuple [.int (grain (ents l)), .list (ps.map partD)]) [.L d (itsL l) n, .d (.tuple [.int f, .int m])]
theorem len_parts {lvs : List LV} {R : PyData → List LV → Prop} (h : spec_parts lvs R) : (pvL 0 lvs).length = 2 := by
  obtain ⟨_, _, _, _, _, rfl, _⟩ := h; rfl
theorem ok_parts_of (T : Top K w mg cC aI dI a_u_law_bag d_u_law_bag a_u_law_take d_u_law_take a_u_law_part d_u_law_part a_u_law_lowest d_u_law_lowest a_u_law_amount d_u_law_amount a_u_law_entry d_u_law_entry a_u_law_entries d_u_law_entries a_u_law_grain d_u_law_grain a_u_law_stretch d_u_law_stretch a_u_law_before d_u_law_before a_u_law_told d_u_law_told a_u_law_statements d_u_law_statements a_u_law_case d_u_law_case a_u_law_days d_u_law_days a_is_integer_kinds d_is_integer_kinds a_is_within d_is_within a_is_day d_is_day a_is_stretch d_is_stretch a_is_integer_ratios d_is_integer_ratios a_common d_common a_is_ratio d_is_ratio a_is_amount d_is_amount a_are_amounts d_are_amounts a_wrong_part d_wrong_part a_check_item d_check_item a_M_numbered d_M_numbered a_M_of_kind d_M_of_kind a_M_add d_M_add a_M_need d_M_need a_M_drop d_M_drop a_u_law_ledger d_u_law_ledger a_lowest d_lowest a_grain_of d_grain_of a_as_ratios d_as_ratios a_meet d_meet a_arc_of d_arc_of a_given_before d_given_before a_units_before d_units_before a_greater_arc d_greater_arc a_lesser_number d_lesser_number a_outside d_outside a_allowed_units d_allowed_units a_left_units d_left_units a_M_entries d_M_entries a_M_statements d_M_statements a_left d_left a_u_law_near d_u_law_near a_is_cut d_is_cut a_check_cut d_check_cut a_check_stretch d_check_stretch a_floor_of d_floor_of a_plus d_plus a_check_day d_check_day a_sum_before d_sum_before a_total_by d_total_by a_told d_told a_parts_of d_parts_of a_numbers d_numbers a_u_law_right d_u_law_right a_law d_law) (G_check_stretch : FnOkG P w K mg base 5 a_check_stretch d_check_stretch ["thing"] (upF K (pur spec_check_stretch))) (G_grain_of : FnOkG P w K mg base 3 a_grain_of d_grain_of ["entries"] (upF K (pur spec_grain))) (G_lesser_number : FnOkG P w K mg base 3 a_lesser_number d_lesser_number ["entries", "stretch", "grain"] (upF K (pur spec_lesser))) (G_left_units : FnOkG P w K mg base 5 a_left_units d_left_units ["entries", "statements", "grain"] (upF K (pur spec_left_units))) (G_greater_arc : FnOkG P w K mg base 3 a_greater_arc d_greater_arc ["entries", "stretch", "grain"] (upF K (pur spec_garc))) (G_meet : FnOkG P w K mg base 1 a_meet d_meet ["one", "other"] (upF K (pur spec_meet))) (G_outside : FnOkG P w K mg base 1 a_outside d_outside ["one", "grain"] (upF K (pur spec_outside))) (G_M_entries : FnOkG P w K mg base 3 a_M_entries d_M_entries ["self"] (upF K (gN spec_entriesM))) (G_M_statements : FnOkG P w K mg base 3 a_M_statements d_M_statements ["self"] (upF K (gN spec_statementsM))) :
    FnOkG P w K mg base 6 a_parts_of d_parts_of ["ledger", "stretch"] (upF K (gD spec_parts)) := by
  refine okP (k := 5) T.F_parts_of sc_parts_of (n := 10) rfl ?len (fun cdv A outer s H E hr hgs => (wss_consB (ws_expr (w_call G_check_stretch hr hgs (by rfl) T.g_check_stretch T.F_check_stretch.kp T.b_check_stretch (wa_cons (w_var 1) wa_nil)))
      (wss_consB (ws_set (i := 2) sc_parts_of.nd rfl (.inl rfl) (w_ne (w_mN0 T.L ⟨by decide +kernel, by decide +kernel⟩ (w_var 0) (fun t h => pe_methG0 h T.L.cl T.me_M_entries G_M_entries (hr.mono (by decide)) hgs T.b_M_entries .nil))))
      (wss_consB (ws_set (i := 3) sc_parts_of.nd rfl (.inl rfl) (w_call G_grain_of (hr.mono (by decide)) hgs (by rfl) T.g_grain_of T.F_grain_of.kp T.b_grain_of (wa_cons (w_var 2) wa_nil)))
      (wss_consB (ws_par (i := 4) (j := 5) rfl sc_parts_of.nd rfl rfl (by decide) rfl rfl (wa_cons (w_call G_left_units hr hgs (by rfl) T.g_left_units T.F_left_units.kp T.b_left_units (wa_cons (w_var 2) (wa_cons (w_ne (w_mN0 T.L ⟨by decide +kernel, by decide +kernel⟩ (w_var 0) (fun t h => pe_methG0 h T.L.cl T.me_M_statements G_M_statements (hr.mono (by decide)) hgs T.b_M_statements .nil))) (wa_cons (w_var 3) wa_nil)))) (wa_cons (w_call G_greater_arc (hr.mono (by decide)) hgs (by rfl) T.g_greater_arc T.F_greater_arc.kp T.b_greater_arc (wa_cons (w_var 2) (wa_cons (w_var 1) (wa_cons (w_var 3) wa_nil)))) wa_nil)) (by rfl))
      (wss_consB (ws_set (i := 6) sc_parts_of.nd rfl (.inl rfl) (w_call G_lesser_number (hr.mono (by decide)) hgs (by rfl) T.g_lesser_number T.F_lesser_number.kp T.b_lesser_number (wa_cons (w_var 2) (wa_cons (w_var 1) (wa_cons (w_var 3) wa_nil)))))
      (wss_consB (ws_set (i := 7) sc_parts_of.nd rfl (.inl rfl) (w_list (wa_cons (w_tup (wa_cons (w_var 6) (wa_cons (w_call G_meet (hr.mono (by decide)) hgs (by rfl) T.g_meet T.F_meet.kp T.b_meet (wa_cons (w_var 4) (wa_cons (w_call G_outside (hr.mono (by decide)) hgs (by rfl) T.g_outside T.F_outside.kp T.b_outside (wa_cons (w_var 5) (wa_cons (w_var 3) wa_nil))) wa_nil))) wa_nil))) (wa_cons (w_tup (wa_cons (w_add (w_var 6) w_int) (wa_cons (w_call G_meet (hr.mono (by decide)) hgs (by rfl) T.g_meet T.F_meet.kp T.b_meet (wa_cons (w_var 4) (wa_cons (w_var 5) wa_nil))) wa_nil))) wa_nil))))
      (wss_one (ws_ret (w_tup (wa_cons (w_var 3) (wa_cons (w_ne (wn_lc (own := [("number", 8), ("part", 9)]) rfl sc_parts_of.nd (wi_list (w_var 7)) (blkOk_by (N := ["ledger", "stretch", "entries", "grain", "spans", "arc", "lesser", "parts", "number", "part"]) (sc := defScope s_parts_of) (by decide +kernel)) (by decide) (fun _ _ _ _ _ => (wg_tup (n := 2) rfl (wgs_cons (wg_name (i := 8) sc_parts_of.nd rfl (.inl rfl)) (wgs_cons (wg_name (i := 9) sc_parts_of.nd rfl (.inl rfl)) wgs_nil)))) (fun _ _ _ _ _ => (wts_one (wt_ne hr (w_var 9) (w_list wa_nil)))) (fun _ _ _ _ _ => (w_tup (wa_cons (w_var 8) (wa_cons (w_var 9) wa_nil)))))) wa_nil)))))))))))) ?body
  case len =>
    rintro args S R ⟨lvs, R0, rfl, rfl, h, q⟩
    exact len_parts h
  case body =>
    rintro args S R ⟨lvs, R0, rfl, rfl, h, q⟩
    obtain ⟨d, l, n, f, m, rfl, ok, f0, m1, fm, hR⟩ := h
    have hes := ok.entsOk
    have hl : (ents l).length ≤ 8 := by have := ok.ne; omega
    have hg := grain_ok hes hl
    have hns := ok.ns
    walk_at "n"
    refine ⟨f, m, rfl, f0, m1, fm, ?_⟩
    walk_at "n"
    refine ⟨rfl, d, l, n, rfl, ok, ?_⟩
    walk_at "n"
    refine ⟨ents l, rfl, hes, hl, ?_⟩
    walk_at "n"
    refine ⟨rfl, d, l, n, rfl, ok, ?_⟩
    walk_at "n"
    refine ⟨ents l, stas l, _, rfl, hes, hl, hg.pos, hg.big, by omega, fun sp hsp hspl => ?_⟩
    refine ⟨ents l, f, m, _, rfl, hes, hl, hg.pos, hg.big, ?_⟩
    walk_at "n"
    refine ⟨ents l, f, m, _, rfl, hes, hl, hg.pos, hg.big, ?_⟩
    have al := arcS_ok (ptU_in (before (ents l) (grain (ents l)) (f + m)) hg.pos).1 (ptU_in (before (ents l) (grain (ents l)) (f + m)) hg.pos).2 (ptU_in (before (ents l) (grain (ents l)) f) hg.pos).1 (ptU_in (before (ents l) (grain (ents l)) f) hg.pos).2
    have ol := outS_ok hg.pos al.1
    walk_at "n"
    refine ⟨_, _, rfl, by have := al.2.2; omega, ?_⟩
    refine ⟨sp, _, rfl, by omega, by have := ol.2.2; have := al.2.2; omega, ?_⟩
    walk_at "n"
    refine ⟨sp, _, rfl, by omega, by have := al.2.2; omega, ?_⟩
    walk_at "n"
    have pok := parts_ok (f := f) (m := m) ok hsp hspl
    refine lcb_filter fullP id (show 2 ≤ sizeLine by decide) (fun d hd k k0 hk hk0 => ?_) ?_
    · have hp : ∃ p : Int × List (Int × Int), d = partD p := by
        simp only [List.mem_cons, List.not_mem_nil, or_false] at hd
        rcases hd with rfl | rfl
        · exact ⟨(_, meetS sp _), rfl⟩
        · exact ⟨(_, meetS sp _), rfl⟩
      obtain ⟨⟨z, x⟩, rfl⟩ := hp
      walk_at "n"
      refine ⟨⟨(lay_rats (k := 0) x).sh, (lay_rats (k := 0) []).sh⟩, ?_⟩
      rw [eqv_nil]
      cases x with
      | nil =>
        refine brF rfl ?_
        exact hk0 rfl
      | cons s x =>
        refine brT rfl ?_
        walk_at "n"
        exact hk rfl
    rw [show ∀ a b : PyData, List.map id (List.filter fullP [a, b]) = ([a, b].filter fullP).map id from fun _ _ => rfl]
    have e := full_D [(lesser (before (ents l) (grain (ents l)) f) (before (ents l) (grain (ents l)) (f + m)) (grain (ents l)), meetS sp (outS (arcS (ptU (before (ents l) (grain (ents l)) (f + m)) (grain (ents l))) (ptU (before (ents l) (grain (ents l)) f) (grain (ents l))) (grain (ents l))) (grain (ents l)))),
          (lesser (before (ents l) (grain (ents l)) f) (before (ents l) (grain (ents l)) (f + m)) (grain (ents l)) + 1, meetS sp (arcS (ptU (before (ents l) (grain (ents l)) (f + m)) (grain (ents l))) (ptU (before (ents l) (grain (ents l)) f) (grain (ents l))) (grain (ents l))))]
    rw [List.map_cons, List.map_cons, List.map_nil] at e
    rw [e]
    walk_at "n"
    exact q _ _ (hR _ pok) []
/-! ### numbers -/
@[reducible] def fstF : PyData → PyData
  | .tuple [n, _] => n
  | _ => .none
def spec_numbers (lvs : List LV) (R : List PyData → List LV → Prop) : Prop := ∃ (d : Addr) (l : Led) (n f m : Int), lvs = [.L d (itsL l) n, .d (.tuple [.int f, .int m])] ∧ LedOk l n ∧ 0 ≤ f ∧ 1 ≤ m ∧ f + m ≤ 10 ^ 30 ∧
  ∀ ps, PartsOk l f m ps → R ((ps.map (·.1)).map PyData.int) [.L d (itsL l) n, .d (.tuple [.int f, .int m])]
theorem len_numbers {lvs : List LV} {R : List PyData → List LV → Prop} (h : spec_numbers lvs R) : (pvL 0 lvs).length = 2 := by
  obtain ⟨_, _, _, _, _, rfl, _⟩ := h; rfl
theorem fst_D (ps : List (Int × List (Int × Int))) : mapD fstF (ps.map partD) = (ps.map (·.1)).map PyData.int := by
  rw [mapD_eq, List.map_map, List.map_map]; rfl
theorem ok_numbers (T : Top K w mg cC aI dI a_u_law_bag d_u_law_bag a_u_law_take d_u_law_take a_u_law_part d_u_law_part a_u_law_lowest d_u_law_lowest a_u_law_amount d_u_law_amount a_u_law_entry d_u_law_entry a_u_law_entries d_u_law_entries a_u_law_grain d_u_law_grain a_u_law_stretch d_u_law_stretch a_u_law_before d_u_law_before a_u_law_told d_u_law_told a_u_law_statements d_u_law_statements a_u_law_case d_u_law_case a_u_law_days d_u_law_days a_is_integer_kinds d_is_integer_kinds a_is_within d_is_within a_is_day d_is_day a_is_stretch d_is_stretch a_is_integer_ratios d_is_integer_ratios a_common d_common a_is_ratio d_is_ratio a_is_amount d_is_amount a_are_amounts d_are_amounts a_wrong_part d_wrong_part a_check_item d_check_item a_M_numbered d_M_numbered a_M_of_kind d_M_of_kind a_M_add d_M_add a_M_need d_M_need a_M_drop d_M_drop a_u_law_ledger d_u_law_ledger a_lowest d_lowest a_grain_of d_grain_of a_as_ratios d_as_ratios a_meet d_meet a_arc_of d_arc_of a_given_before d_given_before a_units_before d_units_before a_greater_arc d_greater_arc a_lesser_number d_lesser_number a_outside d_outside a_allowed_units d_allowed_units a_left_units d_left_units a_M_entries d_M_entries a_M_statements d_M_statements a_left d_left a_u_law_near d_u_law_near a_is_cut d_is_cut a_check_cut d_check_cut a_check_stretch d_check_stretch a_floor_of d_floor_of a_plus d_plus a_check_day d_check_day a_sum_before d_sum_before a_total_by d_total_by a_told d_told a_parts_of d_parts_of a_numbers d_numbers a_u_law_right d_u_law_right a_law d_law) (G_parts_of : FnOkG P w K mg base 6 a_parts_of d_parts_of ["ledger", "stretch"] (upF K (gD spec_parts))) :
    FnOkG P w K mg base 7 a_numbers d_numbers ["ledger", "stretch"] (upF K (gN spec_numbers)) := by
  refine okP (k := 6) T.F_numbers sc_numbers (n := 6) rfl ?len (fun cdv A outer s H E hr hgs => (wss_consB (ws_asg (w_gD G_parts_of hr hgs (by rfl) T.g_parts_of T.F_parts_of.kp T.b_parts_of (wa_cons (w_var 0) (wa_cons (w_var 1) wa_nil))) (wg_tup (n := 2) rfl (wgs_cons (wg_name (i := 2) sc_numbers.nd rfl (.inl rfl)) (wgs_cons (wg_name (i := 3) sc_numbers.nd rfl (.inl rfl)) wgs_nil))))
      (wss_one (ws_retN (wn_lc (own := [("number", 4), ("part", 5)]) rfl sc_numbers.nd (wi_list (w_var 3)) (blkOk_by (N := ["ledger", "stretch", "grain", "parts", "number", "part"]) (sc := defScope s_numbers) (by decide +kernel)) (by decide) (fun _ _ _ _ _ => (wg_tup (n := 2) rfl (wgs_cons (wg_name (i := 4) sc_numbers.nd rfl (.inl rfl)) (wgs_cons (wg_name (i := 5) sc_numbers.nd rfl (.inl rfl)) wgs_nil)))) (fun _ _ _ _ _ => wts_nil) (fun _ _ _ _ _ => (w_var 4))))))) ?body
  case len =>
    rintro args S R ⟨lvs, R0, rfl, rfl, h, q⟩
    exact len_numbers h
  case body =>
    rintro args S R ⟨lvs, R0, rfl, rfl, h, q⟩
    obtain ⟨d, l, n, f, m, rfl, ok, f0, m1, fm, hR⟩ := h
    walk_at "n"
    refine ⟨rfl, d, l, n, f, m, rfl, ok, f0, m1, fm, fun ps hps => ?_⟩
    have few := hps.few
    have hR := hR ps hps
    walk_at "n"
    refine lcb_map fstF (by rw [List.length_map]; exact Nat.le_trans few (by decide)) (fun d hd k hk => ?_) ?_
    · obtain ⟨p, hp, rfl⟩ := List.mem_map.mp hd
      walk_at "n"
      exact hk
    rw [fst_D]
    walk_at "n"
    exact q _ _ hR 0 [.lst ((ps.map (·.1)).map PyData.int)] rfl
/-! ### averages of parts and of cells -/
theorem parts_num {l : Led} {n f m : Int} {ps : List (Int × List (Int × Int))} (ok : LedOk l n) (h : PartsOk l f m ps) : (ps.map fun p => p.1 * sizeS p.2).sum = avgN (ents l) (grain (ents l)) (stas l) f m ∧ (ps.map fun p => sizeS p.2).sum = avgD (ents l) (grain (ents l)) (stas l) := by
  have hg := grain_ok ok.entsOk (by have := ok.ne; omega)
  have key : ∀ c : Int → Int, (ps.map fun p => c p.1 * sizeS p.2).sum = isum (fun u => if satB (ents l) (grain (ents l)) (stas l) u = true then c (toldBy (ents l) (grain (ents l)) u f (f + m)) else 0) 0 (grain (ents l)).toNat := fun c => by
    have e1 : ∀ p ∈ ps, c p.1 * sizeS p.2 = isum (fun u => if satB (ents l) (grain (ents l)) (stas l) u = true ∧ toldBy (ents l) (grain (ents l)) u f (f + m) = p.1 then c p.1 else 0) 0 (grain (ents l)).toNat := fun p hp => by
      obtain ⟨_, _, hs⟩ := h.one p hp
      have hr := rows_sum (F := fun u => if satB (ents l) (grain (ents l)) (stas l) u = true ∧ toldBy (ents l) (grain (ents l)) u f (f + m) = p.1 then c p.1 else 0) (v := fun _ => c p.1) hs.norm.rows (Int.le_of_lt hg.pos) (fun s hs' u h1 h2 => by
        have := ((hs.mem u).mp ⟨s, hs', h1, h2⟩).2
        exact if_pos ⟨satB_iff.mpr this.1, this.2⟩) (fun u h1 h2 h3 => if_neg fun z => h3 ((hs.mem u).mpr ⟨⟨h1, h2⟩, satB_iff.mp z.1, z.2⟩))
      rw [Int.sub_zero] at hr
      rw [hr, size_mul]
    rw [List.map_congr_left e1, ← isum_list (fun (p : Int × List (Int × Int)) u => if satB (ents l) (grain (ents l)) (stas l) u = true ∧ toldBy (ents l) (grain (ents l)) u f (f + m) = p.1 then c p.1 else 0) 0 (grain (ents l)).toNat ps]
    refine isum_congr fun u h1 h2 => ?_
    show (ps.map fun p => if satB (ents l) (grain (ents l)) (stas l) u = true ∧ toldBy (ents l) (grain (ents l)) u f (f + m) = p.1 then c p.1 else 0).sum = if _ then _ else _
    by_cases hs : satB (ents l) (grain (ents l)) (stas l) u = true
    · rw [if_pos hs]
      have e2 : (ps.map fun p => if satB (ents l) (grain (ents l)) (stas l) u = true ∧ toldBy (ents l) (grain (ents l)) u f (f + m) = p.1 then c p.1 else 0) = (ps.map (·.1)).map fun z => if toldBy (ents l) (grain (ents l)) u f (f + m) = z then c z else 0 := by
        rw [List.map_map]
        refine List.map_congr_left fun p _ => ?_
        show (if _ then _ else _) = if _ then _ else _
        by_cases z : toldBy (ents l) (grain (ents l)) u f (f + m) = p.1
        · rw [if_pos ⟨hs, z⟩, if_pos z]
        · rw [if_neg fun w => z w.2, if_neg z]
      rw [e2, sum_one c h.asc, if_pos (h.all u h1 (by omega) (satB_iff.mp hs))]
    · rw [if_neg hs]
      have e2 : (ps.map fun p => if satB (ents l) (grain (ents l)) (stas l) u = true ∧ toldBy (ents l) (grain (ents l)) u f (f + m) = p.1 then c p.1 else 0) = ps.map fun _ => (0 : Int) := List.map_congr_left fun p _ => if_neg fun z => hs z.1
      rw [e2]
      clear h e2 e1
      induction ps with
      | nil => rfl
      | cons p ps ih => rw [List.map_cons, List.sum_cons, ih]; rfl
  refine ⟨key fun z => z, ?_⟩
  have := key fun _ => 1
  simp only [Int.one_mul] at this
  exact this
theorem told_cell {es : List Ent} {g i j : Int} {D ps : List Int} (hg : 0 < g) (h : Points es g D ps) (hi : i ∈ D) (hj : j ∈ D) {c : Int × Int} (hc : c ∈ cellsG g ps) {u : Int} (h1 : c.1 ≤ u) (h2 : u < c.2) : toldBy es g u i j = toldBy es g c.1 i j := by
  obtain ⟨b, r, e⟩ := h.low hg
  obtain ⟨c1, c2, c3, c4⟩ := cells_in h.sorted (fun p hp => (b p hp).2) c hc
  have bc := b _ c1
  have pm : ∀ d ∈ D, ptU (before es g d) g ∈ ps := fun d hd => (h.mem _).mpr (.inr ⟨d, hd, rfl⟩)
  have key : ∀ d ∈ D, (ptU (before es g d) g ≤ u ↔ ptU (before es g d) g ≤ c.1) := fun d hd => by
    have := c4 _ (pm d hd)
    omega
  exact told_same hg (by omega) bc (key _ hi) (key _ hj)
theorem cells_num {es : List Ent} {g : Int} {ss : List Sta} {f m : Int} {D ps : List Int} (hg : 0 < g) (h : Points es g D ps) (hD : ∀ d ∈ ends (ss.map fmS), d ∈ D) (hi : f ∈ D) (hj : f + m ∈ D) :
    ((cellsS es g ss ps).map fun c => (c.2 - c.1) * toldBy es g c.1 f (f + m)).sum = avgN es g ss f m ∧ ((cellsS es g ss ps).map fun c => c.2 - c.1).sum = avgD es g ss := by
  obtain ⟨c1, c2, _⟩ := cellsS_ok (ss := ss) hg h hD
  have inC : ∀ c ∈ cellsS es g ss ps, c ∈ cellsG g ps := fun c hc => (List.mem_filter.mp hc).1
  constructor
  · have := rows_sum (F := fun u => if satB es g ss u = true then toldBy es g u f (f + m) else 0) (v := fun c => toldBy es g c.1 f (f + m)) c1 (Int.le_of_lt hg) (fun c hc u h1 h2 => by
      have s := ((c2 u).mp ⟨c, hc, h1, h2⟩).2
      show (if _ then _ else _) = _
      rw [if_pos (satB_iff.mpr s)]
      exact told_cell hg h hi hj (inC c hc) h1 h2) (fun u h1 h2 h3 => if_neg fun z => h3 ((c2 u).mpr ⟨⟨h1, h2⟩, satB_iff.mp z⟩))
    rw [Int.sub_zero] at this
    exact this.symm
  · have := rows_sum (F := fun u => if satB es g ss u = true then 1 else 0) (v := fun _ => 1) c1 (Int.le_of_lt hg) (fun c hc u h1 h2 => by
      have s := ((c2 u).mp ⟨c, hc, h1, h2⟩).2
      exact if_pos (satB_iff.mpr s)) (fun u h1 h2 h3 => if_neg fun z => h3 ((c2 u).mpr ⟨⟨h1, h2⟩, satB_iff.mp z⟩))
    rw [Int.sub_zero] at this
    unfold avgD
    rw [this]
    congr 1
    exact List.map_congr_left fun c _ => by omega

/-! ### _law_right -/
theorem unit_told48 {es : List Ent} {u c e i j : Int} (hg : 0 < grain es) (e0 : 0 < e) (h : c * grain es = u * e) : toldR es c e i j = toldBy es (grain es) u i j := by
  have key : ∀ d, totR es c e d = (before es (grain es) d + u) / grain es := fun d => by
    unfold totR
    rw [h, ← Int.add_mul, Int.mul_ediv_mul_of_pos_left _ _ e0]
  unfold toldR toldBy
  rw [key, key]
theorem one_part {l : Led} {f m z u : Int} {ps : List (Int × List (Int × Int))} (h : PartsOk l f m ps) (u0 : 0 ≤ u) (u1 : u < grain (ents l)) (us : Sat (ents l) (grain (ents l)) (stas l) u)
    (hz : ∀ u, 0 ≤ u → u < grain (ents l) → Sat (ents l) (grain (ents l)) (stas l) u → toldBy (ents l) (grain (ents l)) u f (f + m) = z) : ps.map (·.1) = [z] := by
  have hin := h.all u u0 u1 us
  rw [hz u u0 u1 us] at hin
  have all : ∀ y ∈ ps.map (·.1), y = z := fun y hy => by
    obtain ⟨p, hp, rfl⟩ := List.mem_map.mp hy
    obtain ⟨ne, _, hs⟩ := h.one p hp
    obtain ⟨v, hv⟩ := hs.norm.ne ne
    obtain ⟨⟨v0, v1⟩, vs, vt⟩ := (hs.mem v).mp hv
    rw [← vt]
    exact hz v v0 v1 vs
  have asc := h.asc
  generalize ps.map (·.1) = zs at *
  cases zs with
  | nil => cases hin
  | cons y r =>
    have hy := all y (by simp)
    cases r with
    | nil => rw [hy]
    | cons y' r =>
      have hy' := all y' (by simp)
      have := (List.pairwise_cons.mp asc).1 y' (by simp)
      omega
theorem lay_spans48 {g : Int} (hg : 0 < g) (x : List (Int × Int)) : lay 3 (.list (x.map (spanD g))) := lay_list fun y hy => by
  obtain ⟨s, _, rfl⟩ := List.mem_map.mp hy
  refine lay_tup fun z hz => ?_
  simp only [List.mem_cons, List.not_mem_nil, or_false] at hz
  rcases hz with rfl | rfl <;> exact lay_low (Int.ne_of_gt hg)
theorem ok_u_law_right (T : Top K w mg cC aI dI a_u_law_bag d_u_law_bag a_u_law_take d_u_law_take a_u_law_part d_u_law_part a_u_law_lowest d_u_law_lowest a_u_law_amount d_u_law_amount a_u_law_entry d_u_law_entry a_u_law_entries d_u_law_entries a_u_law_grain d_u_law_grain a_u_law_stretch d_u_law_stretch a_u_law_before d_u_law_before a_u_law_told d_u_law_told a_u_law_statements d_u_law_statements a_u_law_case d_u_law_case a_u_law_days d_u_law_days a_is_integer_kinds d_is_integer_kinds a_is_within d_is_within a_is_day d_is_day a_is_stretch d_is_stretch a_is_integer_ratios d_is_integer_ratios a_common d_common a_is_ratio d_is_ratio a_is_amount d_is_amount a_are_amounts d_are_amounts a_wrong_part d_wrong_part a_check_item d_check_item a_M_numbered d_M_numbered a_M_of_kind d_M_of_kind a_M_add d_M_add a_M_need d_M_need a_M_drop d_M_drop a_u_law_ledger d_u_law_ledger a_lowest d_lowest a_grain_of d_grain_of a_as_ratios d_as_ratios a_meet d_meet a_arc_of d_arc_of a_given_before d_given_before a_units_before d_units_before a_greater_arc d_greater_arc a_lesser_number d_lesser_number a_outside d_outside a_allowed_units d_allowed_units a_left_units d_left_units a_M_entries d_M_entries a_M_statements d_M_statements a_left d_left a_u_law_near d_u_law_near a_is_cut d_is_cut a_check_cut d_check_cut a_check_stretch d_check_stretch a_floor_of d_floor_of a_plus d_plus a_check_day d_check_day a_sum_before d_sum_before a_total_by d_total_by a_told d_told a_parts_of d_parts_of a_numbers d_numbers a_u_law_right d_u_law_right a_law d_law) (G_u_law_case : FnOkG P w K mg base 6 a_u_law_case d_u_law_case ["bag", "most"] (upF K (mutF spec_case))) (G_u_law_days : FnOkG P w K mg base 3 a_u_law_days d_u_law_days ["bag", "entries", "last", "grain"] (upF K (mutF spec_days))) (G_u_law_ledger : FnOkG P w K mg base 8 a_u_law_ledger d_u_law_ledger ["bag", "entries", "statements"] (upF K (gL spec_ledgerL))) (G_left : FnOkG P w K mg base 6 a_left d_left ["ledger"] (upF K (gN spec_left))) (G_u_law_near : FnOkG P w K mg base 2 a_u_law_near d_u_law_near ["entries", "found", "grain"] (upF K (pur spec_near48))) (G_told : FnOkG P w K mg base 7 a_told d_told ["ledger", "cut", "stretch"] (upF K (gD spec_toldP))) (G_numbers : FnOkG P w K mg base 7 a_numbers d_numbers ["ledger", "stretch"] (upF K (gN spec_numbers))) :
    FnOkG P w K mg base 9 a_u_law_right d_u_law_right ["bag"] (upF K (mutF (spec_draw (fun d => d = .bool true)))) := by
  refine okP (k := 8) T.F_u_law_right sc_u_law_right (n := 14) rfl ?len (fun cdv A outer s H E hr hgs => (wss_consB (ws_asg (w_callM G_u_law_case (hr.mono (by decide)) hgs (by rfl) T.g_u_law_case T.F_u_law_case.kp T.b_u_law_case (wa_cons (w_var 0) (wa_cons w_int wa_nil))) (wg_tup (n := 4) rfl (wgs_cons (wg_name (i := 1) sc_u_law_right.nd rfl (.inl rfl)) (wgs_cons (wg_name (i := 2) sc_u_law_right.nd rfl (.inl rfl)) (wgs_cons (wg_name (i := 3) sc_u_law_right.nd rfl (.inl rfl)) (wgs_cons (wg_name (i := 4) sc_u_law_right.nd rfl (.inl rfl)) wgs_nil))))))
      (wss_consB (ws_set (i := 5) sc_u_law_right.nd rfl (.inl rfl) (w_callM G_u_law_days (hr.mono (by decide)) hgs (by rfl) T.g_u_law_days T.F_u_law_days.kp T.b_u_law_days (wa_cons (w_var 0) (wa_cons (w_var 1) (wa_cons (w_var 3) (wa_cons (w_var 4) wa_nil))))))
      (wss_consB (ws_setLCf (i := 2) (own := [("day", 12), ("number", 13)]) rfl sc_u_law_right.nd rfl rfl (sw_true rfl rfl rfl (by decide +kernel)) (wi_enum (wa_cons (w_var 5) wa_nil) (fun t h => pi_enum (by rfl) T.m_enumerate h)) (blkOk_by (N := ["bag", "entries", "statements", "last", "grain", "found", "ledger", "spans", "end", "first", "stretch", "due", "day", "number"]) (sc := defScope s_u_law_right) (by decide +kernel)) (by decide) (fun _ _ _ _ _ => (wg_tup (n := 2) rfl (wgs_cons (wg_name (i := 12) sc_u_law_right.nd rfl (.inl rfl)) (wgs_cons (wg_name (i := 13) sc_u_law_right.nd rfl (.inl rfl)) wgs_nil)))) (fun _ _ _ _ _ => wts_nil) (fun _ _ _ _ _ => (w_tup (wa_cons w_str (wa_cons (w_var 12) (wa_cons w_int (wa_cons (w_var 13) wa_nil)))))))
      (wss_consB (ws_set (i := 6) sc_u_law_right.nd rfl (.inl rfl) (w_gL G_u_law_ledger hr hgs (by rfl) T.g_u_law_ledger T.F_u_law_ledger.kp T.b_u_law_ledger (wa_cons (w_var 0) (wa_cons (w_var 1) (wa_cons (w_var 2) wa_nil)))))
      (wss_consB (ws_set (i := 7) sc_u_law_right.nd rfl (.inl rfl) (w_ne (w_gN G_left (hr.mono (by decide)) hgs (by rfl) T.g_left T.F_left.kp T.b_left (wa_cons (w_var 6) wa_nil))))
      (wss_consB (ws_if (wt_ne hr (w_ne' hr (w_var 7) (w_list wa_nil)) (w_call G_u_law_near (hr.mono (by decide)) hgs (by rfl) T.g_u_law_near T.F_u_law_near.kp T.b_u_law_near (wa_cons (w_var 1) (wa_cons (w_var 5) (wa_cons (w_var 4) wa_nil))))) (wss_one (ws_ret w_bl)) wss_nil)
      (wss_consB (ws_for PassesOwn.never rfl (wi_range2 (by rfl) T.m_range (wa_cons w_int (wa_cons (w_add (w_var 3) w_int) wa_nil))) (wg_name (i := 8) sc_u_law_right.nd rfl (.inl rfl)) (wss_one (ws_for PassesOwn.never rfl (wi_range1 (by rfl) T.m_range (wa_cons (w_mul (w_var 8) (w_bi ok_int (wa_cons (w_ne' hr (w_var 7) (w_list wa_nil)) wa_nil) (fun t h => pe_callTy call_int1 (by rfl) T.m_int (by decide +kernel) h))) wa_nil)) (wg_name (i := 9) sc_u_law_right.nd rfl (.inl rfl)) (wss_consB (ws_par (i := 10) (j := 11) rfl sc_u_law_right.nd rfl rfl (by decide) rfl rfl (wa_cons (w_tup (wa_cons (w_var 9) (wa_cons (w_sub (w_var 8) (w_var 9)) wa_nil))) (wa_cons (w_bi ok_sum (wa_cons (w_ne (wn_slice (w_var 5) (wo_some (w_var 9)) (wo_some (w_var 8)))) wa_nil) (fun t h => pe_callB (cr_sum rfl) (by rfl) T.m_sum (by decide +kernel) h)) wa_nil)) (by rfl))
      (wss_one (ws_if (WW.wt (ww_or (wt_ne hr (w_gD G_told (hr.mono (by decide)) hgs (by rfl) T.g_told T.F_told.kp T.b_told (wa_cons (w_var 6) (wa_cons (w_ix (w_ix (w_var 7) w_int (fun _ _ => rfl)) w_int (fun _ _ => rfl)) (wa_cons (w_var 10) wa_nil)))) (w_var 11)) (ww_or1 (wt_ne hr (w_ne (w_gN G_numbers (hr.mono (by decide)) hgs (by rfl) T.g_numbers T.F_numbers.kp T.b_numbers (wa_cons (w_var 6) (wa_cons (w_var 10) wa_nil)))) (w_list (wa_cons (w_var 11) wa_nil)))))) (wss_one (ws_ret w_bl)) wss_nil))))))
      (wss_one (ws_ret w_bl)))))))))) ?body
  case len =>
    rintro args S R ⟨xs, ds, R0, rfl, rfl, h, q⟩
    exact len_draw h
  case body =>
    rintro args S R ⟨xs, ds, R0, rfl, rfl, h, q⟩
    obtain ⟨a, b, rfl, rfl, ok, hR⟩ := h
    refine ⟨a, b, 0, rfl, rfl, ok, by decide, by decide, fun es ss0 lst a1 b1 l2 l13 cs ok1 => ?_⟩
    have le := cs.en
    have hes := cs.eo
    have hgo := grain_ok hes (by omega)
    walk_at "n"
    refine ⟨a1, b1, lst, es, rfl, rfl, ok1, hes, by omega, by omega, by omega, fun ns a2 b2 nl nb ok2 => ?_⟩
    walk_at "n"
    refine lcb_map (fun d => match d with | .tuple [.int k, .int n] => staD ⟨k, 1, n⟩ | _ => .none) (by rw [enumF_len, List.length_map, nl]; exact Nat.le_trans (show _ ≤ 13 by omega) (by decide)) (fun x hx k hk => ?_) ?_
    · obtain ⟨i, hi⟩ := List.getElem?_of_mem hx
      obtain ⟨y, rfl, hy⟩ := enumF_at 0 _ _ _ hi
      obtain ⟨z, hz, rfl⟩ := List.mem_map.mp (List.mem_of_getElem? hy)
      walk_at "n"
      exact hk
    rw [dayS_D]
    have sok : ∀ s ∈ dayS 0 ns, StaOk s := fun s hs => by
      obtain ⟨i, hi, rfl⟩ := mem_dayS.mp hs
      exact ⟨by show (0 : Int) ≤ ((0 + i : Nat) : Int); omega, by show (1 : Int) ≤ 1; omega, by show ((0 + i : Nat) : Int) + 1 ≤ 10 ^ 30; omega, by have := nb _ (List.getElem_mem hi); exact Nat.lt_of_le_of_lt this (by decide)⟩
    walk_at "n"
    refine ⟨a2, b2, es, dayS 0 ns, rfl, ok2, hes, sok, by omega, by rw [dayS_len]; omega, fun l n a3 b3 lok pe ps ok3 => ?_⟩
    walk_at "n"
    intro d
    walk_at "n"
    refine ⟨rfl, d, l, n, rfl, lok, fun sp hsp hspl => ?_⟩
    have hgr : grain (ents l) = grain es := grain_same hes fun e => pe.mem_iff
    have hsatp : ∀ u, Sat (ents l) (grain (ents l)) (stas l) u ↔ Sat es (grain es) (dayS 0 ns) u := fun u => by rw [hgr]; exact sat_perm pe ps
    have hne : sp ≠ [] ↔ NearAll es (grain es) ns := by
      rw [near_iff hgo.pos]
      constructor
      · intro h
        obtain ⟨u, hu⟩ := hsp.norm.ne h
        obtain ⟨⟨u0, u1⟩, us⟩ := (hsp.mem u).mp hu
        exact ⟨u, u0, by rw [← hgr]; exact u1, (hsatp u).mp us⟩
      · rintro ⟨u, u0, u1, us⟩ e
        have := (hsp.mem u).mpr ⟨⟨u0, by rw [hgr]; exact u1⟩, (hsatp u).mpr us⟩
        rw [e] at this
        exact memS_nil this
    rw [hgr] at hsp ⊢
    walk_at "n"
    refine ⟨⟨(lay_spans48 hgo.pos sp).sh, (lay_rats (k := 0) []).sh⟩, ?_⟩
    walk_at "n"
    refine ⟨es, ns, grain es, rfl, hes, by omega, hgo, by omega, nb, fun bN hN => ?_⟩
    obtain ⟨X, hX⟩ : ∃ X, X = sp.map (spanD (grain es)) := ⟨_, rfl⟩
    have hXl : lay 3 (.list X) := by rw [hX]; exact lay_spans48 hgo.pos sp
    have eb : bnot ((PyData.list X).eqv (PyData.list [])) = bN := by
      rw [hX, eqv_nil]
      cases sp with
      | nil =>
        cases bN with
        | false => rfl
        | true => exact absurd rfl (hne.mpr (hN.mp rfl))
      | cons s r =>
        cases bN with
        | true => rfl
        | false => exact absurd (hN.mpr (hne.mp (by simp))) (by decide)
    have hXc : bN = true → ∃ (u c e : Int) (y : PyData) (XR : List PyData), X = .tuple [.tuple [.int c, .int e], y] :: XR ∧ (0 ≤ u ∧ u < grain es) ∧ Sat es (grain es) (dayS 0 ns) u ∧ CutOk c e ∧ c * grain es = u * e := fun hb => by
      cases sp with
      | nil => exact absurd rfl (hne.mpr (hN.mp hb))
      | cons s r =>
        obtain ⟨n1, n2, n3, n4⟩ := hsp.norm
        obtain ⟨⟨u0, u1⟩, us⟩ := (hsp.mem s.1).mp (memS_cons.mpr (.inl ⟨Int.le_refl _, n2⟩))
        obtain ⟨c, e, ec, cok, hce, cb1, cb2⟩ := low_is (t := s.1) (Int.ne_of_gt hgo.pos)
        refine ⟨s.1, c, e, lowD s.2 (grain es), r.map (spanD (grain es)), by rw [hX, List.map_cons]; unfold spanD; rw [ec], ⟨u0, u1⟩, ?_, ⟨cok, ?_, ?_, by have := hgo.big; exact lt_up (m := 700) (by omega) (by decide)⟩, hce⟩
        · have := (hsatp s.1).mp (by rw [hgr]; exact us)
          exact this
        · have e0 := cok.1
          have gp := hgo.pos
          rcases Int.lt_or_le c 0 with w | w
          · have := Int.mul_neg_of_neg_of_pos w gp
            have := Int.mul_nonneg u0 (Int.le_of_lt e0)
            omega
          · exact w
        · have e0 := cok.1
          have gp := hgo.pos
          rcases Int.lt_or_le c e with w | w
          · exact w
          · have k1 := Int.mul_le_mul_of_nonneg_right w (Int.le_of_lt gp)
            have k2 := Int.mul_lt_mul_of_pos_right u1 e0
            rw [Int.mul_comm (grain es) e] at k2
            omega
    rw [← hX]
    walk_at "n"
    rw [show bnot (decide (bnot ((PyData.list X).eqv (PyData.list [])) = bN)) = false from by rw [eb, decide_eq_true (rfl : bN = bN)]]
    walk_at "n"
    refine ⟨⟨by omega, by omega⟩, ?_⟩
    refine ⟨fun i ρ S => ∃ (o1 o2 o3 o4 o5 o6 : Option PV), ρ = [some (.cel 0), some (.d (.list (es.map entD))), some (.d (.list ((dayS 0 ns).map staD))), some (.d (.int lst)), some (.d (.int (grain es))), some (.d (.list (ns.map PyData.int))), some (.cel 1), some (.d (.list X)), o1, o2, o3, o4, o5, o6] ∧ S = [.lst [.int a3, .int b3], .led d n, .dic d (itsL l)], ⟨_, _, _, _, _, _, rfl, rfl⟩, ?_, ?_⟩
    · rintro i x _ _ hd ⟨o1, o2, o3, o4, o5, o6, rfl, rfl⟩
      obtain ⟨rfl, hi⟩ := rngD_at hd
      rw [show (1 : Int) + (i : Nat) = ((i + 1 : Nat) : Int) by omega]
      walk_at "n"
      refine ⟨⟨hXl.sh, (lay_rats (k := 0) []).sh⟩, ?_⟩
      walk_at "n"
      rw [eb]
      refine ⟨mulP (m := 20) (n := 20) (by omega) (by cases bN <;> decide), ?_⟩
      walk_at "n"
      have hc : ((i + 1 : Nat) : Int) * (if bN = true then 1 else 0) = if bN = true then ((i + 1 : Nat) : Int) else 0 := by split <;> simp
      rw [hc]
      refine ⟨⟨by split <;> omega, by split <;> omega⟩, ?_⟩
      refine ⟨fun j ρ S => ∃ (o2 o3 o4 : Option PV), ρ = [some (.cel 0), some (.d (.list (es.map entD))), some (.d (.list ((dayS 0 ns).map staD))), some (.d (.int lst)), some (.d (.int (grain es))), some (.d (.list (ns.map PyData.int))), some (.cel 1), some (.d (.list X)), some (.d (.int ((i + 1 : Nat) : Int))), o2, o3, o4, o5, o6] ∧ S = [.lst [.int a3, .int b3], .led d n, .dic d (itsL l)], ⟨_, _, _, rfl, rfl⟩, ?_, ?_⟩
      · rintro k x _ _ hd ⟨o2, o3, o4, rfl, rfl⟩
        obtain ⟨rfl, hk⟩ := rngD_at hd
        have hb : bN = true := by
          cases bN with
          | true => rfl
          | false => simp at hk
        rw [if_pos hb] at hk
        have hki : k < i + 1 := by omega
        have hin : i + 1 ≤ ns.length := by omega
        obtain ⟨u, c, e, y, XR, eX, ⟨u0, u1⟩, us, co, hce⟩ := hXc hb
        have em : ((k : Nat) : Int) + (((i + 1 : Nat) : Int) - ((k : Nat) : Int)) = ((i + 1 : Nat) : Int) := by omega
        have et : toldR (ents l) c e ((k : Nat) : Int) (((k : Nat) : Int) + (((i + 1 : Nat) : Int) - ((k : Nat) : Int))) = preS ns (i + 1) - preS ns k := by
          rw [em, unit_told48 (u := u) (by rw [hgr]; exact hgo.pos) co.rat.1 (by rw [hgr]; exact hce), hgr, told_perm pe]
          exact sat_run us (by omega) hin
        have eu : ∀ v, 0 ≤ v → v < grain (ents l) → Sat (ents l) (grain (ents l)) (stas l) v → toldBy (ents l) (grain (ents l)) v ((k : Nat) : Int) (((k : Nat) : Int) + (((i + 1 : Nat) : Int) - ((k : Nat) : Int))) = preS ns (i + 1) - preS ns k := fun v v0 v1 vs => by
          rw [em, hgr, told_perm pe]
          exact sat_run ((hsatp v).mp vs) (by omega) hin
        rw [show (0 : Int) + (k : Nat) = ((k : Nat) : Int) by omega]
        rw [eX] at hXl eb ⊢
        walk_at "n"
        rw [cut_run (by omega) hin, Pu.intsD_map]
        walk_at "n"
        rw [run_sum (by omega)]
        refine ⟨rfl, d, l, n, c, e, ((k : Nat) : Int), ((i + 1 : Nat) : Int) - ((k : Nat) : Int), rfl, lok, co, by omega, by omega, by omega, ?_⟩
        rw [et]
        walk_at "n"
        refine brNE rfl ?_
        walk_at "n"
        refine ⟨rfl, d, l, n, ((k : Nat) : Int), ((i + 1 : Nat) : Int) - ((k : Nat) : Int), rfl, lok, by omega, by omega, by omega, fun ps2 hps2 => ?_⟩
        rw [one_part hps2 u0 (by rw [hgr]; exact u1) ((hsatp u).mpr us) eu]
        walk_at "n"
        refine ne_self (lay_ints (k := 0) [_]) ?_
        walk_at "n"
        exact .inl ⟨_, _, _, rfl, rfl⟩
      · rintro _ _ ⟨o2, o3, o4, rfl, rfl⟩
        walk_at "n"
        exact .inl ⟨_, _, _, _, _, _, rfl, rfl⟩
    · rintro _ _ ⟨o1, o2, o3, o4, o5, o6, rfl, rfl⟩
      walk_at "n"
      exact q _ _ (hR _ _ _ rfl ok3) _
/-! ### law -/
theorem ks4_bound (m : Int) : -(2 ^ 62) ≤ (if (if m < 4 then m else 4) > 2 then (if m < 4 then m else 4) else 2) ∧ (if (if m < 4 then m else 4) > 2 then (if m < 4 then m else 4) else 2) < 2 ^ 62 := by
  constructor <;> (split <;> (try split)) <;> omega
theorem ks4_le {i : Nat} {m : Int} (h : i < (if (if m < 4 then m else 4) > 2 then (if m < 4 then m else 4) else 2).toNat) : i ≤ 4 := by
  have : ∀ m : Int, (if (if m < 4 then m else 4) > 2 then (if m < 4 then m else 4) else 2) ≤ 4 := fun m => by split <;> (try split) <;> omega
  have := this m
  omega
theorem ok_law (T : Top K w mg cC aI dI a_u_law_bag d_u_law_bag a_u_law_take d_u_law_take a_u_law_part d_u_law_part a_u_law_lowest d_u_law_lowest a_u_law_amount d_u_law_amount a_u_law_entry d_u_law_entry a_u_law_entries d_u_law_entries a_u_law_grain d_u_law_grain a_u_law_stretch d_u_law_stretch a_u_law_before d_u_law_before a_u_law_told d_u_law_told a_u_law_statements d_u_law_statements a_u_law_case d_u_law_case a_u_law_days d_u_law_days a_is_integer_kinds d_is_integer_kinds a_is_within d_is_within a_is_day d_is_day a_is_stretch d_is_stretch a_is_integer_ratios d_is_integer_ratios a_common d_common a_is_ratio d_is_ratio a_is_amount d_is_amount a_are_amounts d_are_amounts a_wrong_part d_wrong_part a_check_item d_check_item a_M_numbered d_M_numbered a_M_of_kind d_M_of_kind a_M_add d_M_add a_M_need d_M_need a_M_drop d_M_drop a_u_law_ledger d_u_law_ledger a_lowest d_lowest a_grain_of d_grain_of a_as_ratios d_as_ratios a_meet d_meet a_arc_of d_arc_of a_given_before d_given_before a_units_before d_units_before a_greater_arc d_greater_arc a_lesser_number d_lesser_number a_outside d_outside a_allowed_units d_allowed_units a_left_units d_left_units a_M_entries d_M_entries a_M_statements d_M_statements a_left d_left a_u_law_near d_u_law_near a_is_cut d_is_cut a_check_cut d_check_cut a_check_stretch d_check_stretch a_floor_of d_floor_of a_plus d_plus a_check_day d_check_day a_sum_before d_sum_before a_total_by d_total_by a_told d_told a_parts_of d_parts_of a_numbers d_numbers a_u_law_right d_u_law_right a_law d_law) (G_u_law_bag : FnOkG P w K mg base 1 a_u_law_bag d_u_law_bag ["script", "at"] (upF K (newF spec_u_law_bag))) (G_u_law_right : FnOkG P w K mg base 9 a_u_law_right d_u_law_right ["bag"] (upF K (mutF (spec_draw (fun d => d = .bool true))))) :
    LawOk P w K mg base a_law d_law := by
  refine okLaw (k := 9) T.F_law sc_law (n := 4) rfl ⟨rfl, by decide, by decide⟩ (fun cdv s H hr hgs => (wss_consB (ws_for PassesOwn.never rfl (wi_range1 (by rfl) T.m_range (wa_cons (w_bi ok_max2 (wa_cons w_int (wa_cons (w_bi ok_min2 (wa_cons w_int (wa_cons (w_bi ok_len (wa_cons (w_var 0) wa_nil) (fun t h => pe_callB (call_len_seq.or call_len_str) (by rfl) T.m_len (by decide +kernel) h)) wa_nil)) (fun t h => pe_callB (call_min2 rfl) (by rfl) T.m_min (by decide +kernel) h)) wa_nil)) (fun t h => pe_callB (call_max2 rfl) (by rfl) T.m_max (by decide +kernel) h)) wa_nil)) (wg_name (i := 1) sc_law.nd rfl (.inl rfl)) (wss_consB (ws_setN (i := 2) sc_law.nd rfl (.inl rfl) (w_callN G_u_law_bag (hr.mono (by decide)) hgs (by rfl) T.g_u_law_bag T.F_u_law_bag.kp T.b_u_law_bag (wa_cons (w_var 0) (wa_cons (w_var 1) wa_nil))))
      (wss_one (ws_for PassesOwn.never rfl (wi_range1 (by rfl) T.m_range (wa_cons w_int wa_nil)) (wg_name (i := 3) sc_law.nd rfl (.inl rfl)) (wss_one (ws_if (wt_not (w_val (w_callM G_u_law_right hr hgs (by rfl) T.g_u_law_right T.F_u_law_right.kp T.b_u_law_right (wa_cons (w_var 2) wa_nil)))) (wss_one (ws_ret w_bl)) wss_nil))))))
      (wss_one (ws_ret w_bl)))) ?body
  case body =>
    intro ns hlen
    walk_at "n"
    refine ⟨ks4_bound _, fun i ρ S => ρ = [some (.d (.list (ns.map PyData.int))), none, none, none] ∧ S = [], ⟨rfl, rfl⟩, ?_, ?_⟩
    · rintro i d _ _ hd ⟨rfl, rfl⟩
      obtain ⟨rfl, hi⟩ := rngD_at hd
      have hk := ks4_le hi
      refine ⟨ns, _, rfl, by omega, by omega, fun a b ha hb hb2 => ?_⟩
      walk_at "n"
      refine ⟨by decide, fun j ρ S => ∃ a b : Int, BagOk a b ∧ ρ = [some (.d (.list (ns.map PyData.int))), some (.d (.int (0 + (i : Nat)))), some (.cel 0), none] ∧ S = [.lst [.int a, .int b]], ⟨a, b, ⟨ha, hb, hb2⟩, rfl, rfl⟩, ?_, ?_⟩
      · rintro j d _ _ hd ⟨a, b, ok, rfl, rfl⟩
        refine ⟨a, b, rfl, rfl, ok, ?_⟩
        rintro _ a1 b1 rfl ok1
        walk_at "n"
        exact nx_gc [.lst [.int a1, .int b1]] ⟨a1, b1, ok1, rfl, rfl⟩ ⟨keepS trivial, keepS trivial, keepS (Nat.zero_lt_one), .inl rfl, trivial⟩ (Nat.le_refl _) ⟨[], rfl⟩
      · rintro _ _ ⟨a, b, ok, rfl, rfl⟩
        walk_at "n"
        exact nx_gc [] ⟨rfl, rfl⟩ ⟨keepS trivial, .inl rfl, .inl rfl, .inl rfl, trivial⟩ (Nat.zero_le _) ⟨_, rfl⟩
    · rintro _ _ ⟨rfl, rfl⟩
      walk_at "n"
end
theorem all_mk {l : PySem.W.OpenLaw} {w : World} {K : PySem.W.Frag} {h : Heap} {mg : Str → Option Value} {fa f0 f1 f2 f3 f4 f5 f6 f7 f8 f9 f10 f11 f12 f13 f14 f15 f16 f17 f18 f19 f20 f21 f22 f23 f24 f25 f26 f27 f28 f29 f30 f31 f32 f33 f34 f35 f36 f37 f38 f39 f40 f41 f42 f43 f44 f45 f46 f47 f48 f49 f50 f51 f52 f53 f54 f55 f56 f57 f58 f59 : Addr} (X : K.In h) (G : h.Ns mainGlobals mg) (hfa : mg "law" = some (.ref fa))
    {od0 an0 od1 an1 od2 an2 od3 an3 od4 an4 od5 an5 od6 an6 od7 an7 od8 an8 od9 an9 od10 an10 od11 an11 od12 an12 od13 an13 od14 an14 od15 an15 od16 an16 od17 an17 od18 an18 od19 an19 od20 an20 od21 an21 od22 an22 od23 an23 od24 an24 od25 an25 od26 an26 od27 an27 od28 an28 od29 an29 od30 an30 od31 an31 od32 an32 od33 an33 od34 an34 od35 an35 od36 an36 od37 an37 od38 an38 od39 an39 od40 an40 od41 an41 od42 an42 od43 an43 od44 an44 od45 an45 od46 an46 od47 an47 od48 an48 od49 an49 od50 an50 od51 an51 od52 an52 od53 an53 od54 an54 od55 an55 od56 an56 od57 an57 od58 an58 od59 an59 : Option Addr} {sl0 sl1 sl2 sl3 sl4 sl5 sl6 sl7 sl8 sl9 sl10 sl11 sl12 sl13 sl14 sl15 sl16 sl17 sl18 sl19 sl20 sl21 sl22 sl23 sl24 sl25 sl26 sl27 sl28 sl29 sl30 sl31 sl32 sl33 sl34 sl35 sl36 sl37 sl38 sl39 sl40 sl41 sl42 sl43 sl44 sl45 sl46 sl47 sl48 sl49 sl50 sl51 sl52 sl53 sl54 sl55 sl56 sl57 sl58 sl59 : Array (Option Value)} {oc0 kV0 dc0 pm0 cd0 ct0 oc1 kV1 dc1 pm1 cd1 ct1 oc2 kV2 dc2 pm2 cd2 ct2 oc3 kV3 dc3 pm3 cd3 ct3 oc4 kV4 dc4 pm4 cd4 ct4 oc5 kV5 dc5 pm5 cd5 ct5 oc6 kV6 dc6 pm6 cd6 ct6 oc7 kV7 dc7 pm7 cd7 ct7 oc8 kV8 dc8 pm8 cd8 ct8 oc9 kV9 dc9 pm9 cd9 ct9 oc10 kV10 dc10 pm10 cd10 ct10 oc11 kV11 dc11 pm11 cd11 ct11 oc12 kV12 dc12 pm12 cd12 ct12 oc13 kV13 dc13 pm13 cd13 ct13 oc14 kV14 dc14 pm14 cd14 ct14 oc15 kV15 dc15 pm15 cd15 ct15 oc16 kV16 dc16 pm16 cd16 ct16 oc17 kV17 dc17 pm17 cd17 ct17 oc18 kV18 dc18 pm18 cd18 ct18 oc19 kV19 dc19 pm19 cd19 ct19 oc20 kV20 dc20 pm20 cd20 ct20 oc21 kV21 dc21 pm21 cd21 ct21 oc22 kV22 dc22 pm22 cd22 ct22 oc23 kV23 dc23 pm23 cd23 ct23 oc24 kV24 dc24 pm24 cd24 ct24 oc25 kV25 dc25 pm25 cd25 ct25 oc26 kV26 dc26 pm26 cd26 ct26 oc27 kV27 dc27 pm27 cd27 ct27 oc28 kV28 dc28 pm28 cd28 ct28 oc29 kV29 dc29 pm29 cd29 ct29 oc30 kV30 dc30 pm30 cd30 ct30 oc31 kV31 dc31 pm31 cd31 ct31 oc32 kV32 dc32 pm32 cd32 ct32 oc33 kV33 dc33 pm33 cd33 ct33 oc34 kV34 dc34 pm34 cd34 ct34 oc35 kV35 dc35 pm35 cd35 ct35 oc36 kV36 dc36 pm36 cd36 ct36 oc37 kV37 dc37 pm37 cd37 ct37 oc38 kV38 dc38 pm38 cd38 ct38 oc39 kV39 dc39 pm39 cd39 ct39 oc40 kV40 dc40 pm40 cd40 ct40 oc41 kV41 dc41 pm41 cd41 ct41 oc42 kV42 dc42 pm42 cd42 ct42 oc43 kV43 dc43 pm43 cd43 ct43 oc44 kV44 dc44 pm44 cd44 ct44 oc45 kV45 dc45 pm45 cd45 ct45 oc46 kV46 dc46 pm46 cd46 ct46 oc47 kV47 dc47 pm47 cd47 ct47 oc48 kV48 dc48 pm48 cd48 ct48 oc49 kV49 dc49 pm49 cd49 ct49 oc50 kV50 dc50 pm50 cd50 ct50 oc51 kV51 dc51 pm51 cd51 ct51 oc52 kV52 dc52 pm52 cd52 ct52 oc53 kV53 dc53 pm53 cd53 ct53 oc54 kV54 dc54 pm54 cd54 ct54 oc55 kV55 dc55 pm55 cd55 ct55 oc56 kV56 dc56 pm56 cd56 ct56 oc57 kV57 dc57 pm57 cd57 ct57 oc58 kV58 dc58 pm58 cd58 ct58 oc59 kV59 dc59 pm59 cd59 ct59 : Value}
    {cC : Addr} (hcC : PySem.W.nsIn K mainGlobals "Ledger" = some (some (.ref cC))) (hpg : PySem.W.plainGet K cC Str.empty = true) (hhd : PySem.W.hasDictIn K cC = true) (hpo : PySem.W.plainOver K cC = true) (hsa : PySem.W.findIn K (.ref cC) "__setattr__" = some (some (.builtin "object.__setattr__"))) (hnP : PySem.W.findIn K (.ref cC) "present" = some none) (hnC : PySem.W.findIn K (.ref cC) "coming" = some none)
    {aI : Addr} {odI anI : Option Addr} {slI : Array (Option Value)} {ocI kVI dcI pmI cdI ctI : Value} (hpI : PySem.W.findIn K (.ref cC) "__init__" = some (some (.ref aI))) (hiI : PySem.W.isFn K (.ref aI) = true) (hlI : K.lookup aI = some ⟨ocI, odI, .func (PySem.W.fnOf "__init__" "Ledger.__init__" (defArgs s_I) (defBody s_I) (defScope s_I) .none kVI dcI pmI anI cdI ctI), slI⟩) (hdI : PySem.W.codeIn K cdI "Ledger.__init__" = true) (hkI : PySem.W.keepIn K (.ref aI) = true) (hmk : PySem.W.makesIn K cC = true) (hkc : PySem.W.keepIn K (.ref cC) = true)
    (p0 : PySem.W.nsIn K mainGlobals "_law_bag" = some (some (.ref f0))) (l0 : K.lookup f0 = some ⟨oc0, od0, .func (PySem.W.fnOf "_law_bag" "_law_bag" (defArgs s_u_law_bag) (defBody s_u_law_bag) (defScope s_u_law_bag) .none kV0 dc0 pm0 an0 cd0 ct0), sl0⟩) (c0 : PySem.W.codeIn K cd0 "_law_bag" = true) (k0 : PySem.W.keepIn K (.ref f0) = true)
    (p1 : PySem.W.nsIn K mainGlobals "_law_take" = some (some (.ref f1))) (l1 : K.lookup f1 = some ⟨oc1, od1, .func (PySem.W.fnOf "_law_take" "_law_take" (defArgs s_u_law_take) (defBody s_u_law_take) (defScope s_u_law_take) .none kV1 dc1 pm1 an1 cd1 ct1), sl1⟩) (c1 : PySem.W.codeIn K cd1 "_law_take" = true) (k1 : PySem.W.keepIn K (.ref f1) = true)
    (p2 : PySem.W.nsIn K mainGlobals "_law_part" = some (some (.ref f2))) (l2 : K.lookup f2 = some ⟨oc2, od2, .func (PySem.W.fnOf "_law_part" "_law_part" (defArgs s_u_law_part) (defBody s_u_law_part) (defScope s_u_law_part) .none kV2 dc2 pm2 an2 cd2 ct2), sl2⟩) (c2 : PySem.W.codeIn K cd2 "_law_part" = true) (k2 : PySem.W.keepIn K (.ref f2) = true)
    (p3 : PySem.W.nsIn K mainGlobals "_law_lowest" = some (some (.ref f3))) (l3 : K.lookup f3 = some ⟨oc3, od3, .func (PySem.W.fnOf "_law_lowest" "_law_lowest" (defArgs s_u_law_lowest) (defBody s_u_law_lowest) (defScope s_u_law_lowest) .none kV3 dc3 pm3 an3 cd3 ct3), sl3⟩) (c3 : PySem.W.codeIn K cd3 "_law_lowest" = true) (k3 : PySem.W.keepIn K (.ref f3) = true)
    (p4 : PySem.W.nsIn K mainGlobals "_law_amount" = some (some (.ref f4))) (l4 : K.lookup f4 = some ⟨oc4, od4, .func (PySem.W.fnOf "_law_amount" "_law_amount" (defArgs s_u_law_amount) (defBody s_u_law_amount) (defScope s_u_law_amount) .none kV4 dc4 pm4 an4 cd4 ct4), sl4⟩) (c4 : PySem.W.codeIn K cd4 "_law_amount" = true) (k4 : PySem.W.keepIn K (.ref f4) = true)
    (p5 : PySem.W.nsIn K mainGlobals "_law_entry" = some (some (.ref f5))) (l5 : K.lookup f5 = some ⟨oc5, od5, .func (PySem.W.fnOf "_law_entry" "_law_entry" (defArgs s_u_law_entry) (defBody s_u_law_entry) (defScope s_u_law_entry) .none kV5 dc5 pm5 an5 cd5 ct5), sl5⟩) (c5 : PySem.W.codeIn K cd5 "_law_entry" = true) (k5 : PySem.W.keepIn K (.ref f5) = true)
    (p6 : PySem.W.nsIn K mainGlobals "_law_entries" = some (some (.ref f6))) (l6 : K.lookup f6 = some ⟨oc6, od6, .func (PySem.W.fnOf "_law_entries" "_law_entries" (defArgs s_u_law_entries) (defBody s_u_law_entries) (defScope s_u_law_entries) .none kV6 dc6 pm6 an6 cd6 ct6), sl6⟩) (c6 : PySem.W.codeIn K cd6 "_law_entries" = true) (k6 : PySem.W.keepIn K (.ref f6) = true)
    (p7 : PySem.W.nsIn K mainGlobals "_law_grain" = some (some (.ref f7))) (l7 : K.lookup f7 = some ⟨oc7, od7, .func (PySem.W.fnOf "_law_grain" "_law_grain" (defArgs s_u_law_grain) (defBody s_u_law_grain) (defScope s_u_law_grain) .none kV7 dc7 pm7 an7 cd7 ct7), sl7⟩) (c7 : PySem.W.codeIn K cd7 "_law_grain" = true) (k7 : PySem.W.keepIn K (.ref f7) = true)
    (p8 : PySem.W.nsIn K mainGlobals "_law_stretch" = some (some (.ref f8))) (l8 : K.lookup f8 = some ⟨oc8, od8, .func (PySem.W.fnOf "_law_stretch" "_law_stretch" (defArgs s_u_law_stretch) (defBody s_u_law_stretch) (defScope s_u_law_stretch) .none kV8 dc8 pm8 an8 cd8 ct8), sl8⟩) (c8 : PySem.W.codeIn K cd8 "_law_stretch" = true) (k8 : PySem.W.keepIn K (.ref f8) = true)
    (p9 : PySem.W.nsIn K mainGlobals "_law_before" = some (some (.ref f9))) (l9 : K.lookup f9 = some ⟨oc9, od9, .func (PySem.W.fnOf "_law_before" "_law_before" (defArgs s_u_law_before) (defBody s_u_law_before) (defScope s_u_law_before) .none kV9 dc9 pm9 an9 cd9 ct9), sl9⟩) (c9 : PySem.W.codeIn K cd9 "_law_before" = true) (k9 : PySem.W.keepIn K (.ref f9) = true)
    (p10 : PySem.W.nsIn K mainGlobals "_law_told" = some (some (.ref f10))) (l10 : K.lookup f10 = some ⟨oc10, od10, .func (PySem.W.fnOf "_law_told" "_law_told" (defArgs s_u_law_told) (defBody s_u_law_told) (defScope s_u_law_told) .none kV10 dc10 pm10 an10 cd10 ct10), sl10⟩) (c10 : PySem.W.codeIn K cd10 "_law_told" = true) (k10 : PySem.W.keepIn K (.ref f10) = true)
    (p11 : PySem.W.nsIn K mainGlobals "_law_statements" = some (some (.ref f11))) (l11 : K.lookup f11 = some ⟨oc11, od11, .func (PySem.W.fnOf "_law_statements" "_law_statements" (defArgs s_u_law_statements) (defBody s_u_law_statements) (defScope s_u_law_statements) .none kV11 dc11 pm11 an11 cd11 ct11), sl11⟩) (c11 : PySem.W.codeIn K cd11 "_law_statements" = true) (k11 : PySem.W.keepIn K (.ref f11) = true)
    (p12 : PySem.W.nsIn K mainGlobals "_law_case" = some (some (.ref f12))) (l12 : K.lookup f12 = some ⟨oc12, od12, .func (PySem.W.fnOf "_law_case" "_law_case" (defArgs s_u_law_case) (defBody s_u_law_case) (defScope s_u_law_case) .none kV12 dc12 pm12 an12 cd12 ct12), sl12⟩) (c12 : PySem.W.codeIn K cd12 "_law_case" = true) (k12 : PySem.W.keepIn K (.ref f12) = true)
    (p13 : PySem.W.nsIn K mainGlobals "_law_days" = some (some (.ref f13))) (l13 : K.lookup f13 = some ⟨oc13, od13, .func (PySem.W.fnOf "_law_days" "_law_days" (defArgs s_u_law_days) (defBody s_u_law_days) (defScope s_u_law_days) .none kV13 dc13 pm13 an13 cd13 ct13), sl13⟩) (c13 : PySem.W.codeIn K cd13 "_law_days" = true) (k13 : PySem.W.keepIn K (.ref f13) = true)
    (p14 : PySem.W.nsIn K mainGlobals "is_integer_kinds" = some (some (.ref f14))) (l14 : K.lookup f14 = some ⟨oc14, od14, .func (PySem.W.fnOf "is_integer" "is_integer" (defArgs s_is_integer_kinds) (defBody s_is_integer_kinds) (defScope s_is_integer_kinds) .none kV14 dc14 pm14 an14 cd14 ct14), sl14⟩) (c14 : PySem.W.codeIn K cd14 "is_integer" = true) (k14 : PySem.W.keepIn K (.ref f14) = true)
    (p15 : PySem.W.nsIn K mainGlobals "is_within" = some (some (.ref f15))) (l15 : K.lookup f15 = some ⟨oc15, od15, .func (PySem.W.fnOf "is_within" "is_within" (defArgs s_is_within) (defBody s_is_within) (defScope s_is_within) .none kV15 dc15 pm15 an15 cd15 ct15), sl15⟩) (c15 : PySem.W.codeIn K cd15 "is_within" = true) (k15 : PySem.W.keepIn K (.ref f15) = true)
    (p16 : PySem.W.nsIn K mainGlobals "is_day" = some (some (.ref f16))) (l16 : K.lookup f16 = some ⟨oc16, od16, .func (PySem.W.fnOf "is_day" "is_day" (defArgs s_is_day) (defBody s_is_day) (defScope s_is_day) .none kV16 dc16 pm16 an16 cd16 ct16), sl16⟩) (c16 : PySem.W.codeIn K cd16 "is_day" = true) (k16 : PySem.W.keepIn K (.ref f16) = true)
    (p17 : PySem.W.nsIn K mainGlobals "is_stretch" = some (some (.ref f17))) (l17 : K.lookup f17 = some ⟨oc17, od17, .func (PySem.W.fnOf "is_stretch" "is_stretch" (defArgs s_is_stretch) (defBody s_is_stretch) (defScope s_is_stretch) .none kV17 dc17 pm17 an17 cd17 ct17), sl17⟩) (c17 : PySem.W.codeIn K cd17 "is_stretch" = true) (k17 : PySem.W.keepIn K (.ref f17) = true)
    (p18 : PySem.W.nsIn K mainGlobals "is_integer_ratios" = some (some (.ref f18))) (l18 : K.lookup f18 = some ⟨oc18, od18, .func (PySem.W.fnOf "is_integer" "is_integer" (defArgs s_is_integer_ratios) (defBody s_is_integer_ratios) (defScope s_is_integer_ratios) .none kV18 dc18 pm18 an18 cd18 ct18), sl18⟩) (c18 : PySem.W.codeIn K cd18 "is_integer" = true) (k18 : PySem.W.keepIn K (.ref f18) = true)
    (p19 : PySem.W.nsIn K mainGlobals "common" = some (some (.ref f19))) (l19 : K.lookup f19 = some ⟨oc19, od19, .func (PySem.W.fnOf "common" "common" (defArgs s_common) (defBody s_common) (defScope s_common) .none kV19 dc19 pm19 an19 cd19 ct19), sl19⟩) (c19 : PySem.W.codeIn K cd19 "common" = true) (k19 : PySem.W.keepIn K (.ref f19) = true)
    (p20 : PySem.W.nsIn K mainGlobals "is_ratio" = some (some (.ref f20))) (l20 : K.lookup f20 = some ⟨oc20, od20, .func (PySem.W.fnOf "is_ratio" "is_ratio" (defArgs s_is_ratio) (defBody s_is_ratio) (defScope s_is_ratio) .none kV20 dc20 pm20 an20 cd20 ct20), sl20⟩) (c20 : PySem.W.codeIn K cd20 "is_ratio" = true) (k20 : PySem.W.keepIn K (.ref f20) = true)
    (p21 : PySem.W.nsIn K mainGlobals "is_amount" = some (some (.ref f21))) (l21 : K.lookup f21 = some ⟨oc21, od21, .func (PySem.W.fnOf "is_amount" "is_amount" (defArgs s_is_amount) (defBody s_is_amount) (defScope s_is_amount) .none kV21 dc21 pm21 an21 cd21 ct21), sl21⟩) (c21 : PySem.W.codeIn K cd21 "is_amount" = true) (k21 : PySem.W.keepIn K (.ref f21) = true)
    (p22 : PySem.W.nsIn K mainGlobals "are_amounts" = some (some (.ref f22))) (l22 : K.lookup f22 = some ⟨oc22, od22, .func (PySem.W.fnOf "are_amounts" "are_amounts" (defArgs s_are_amounts) (defBody s_are_amounts) (defScope s_are_amounts) .none kV22 dc22 pm22 an22 cd22 ct22), sl22⟩) (c22 : PySem.W.codeIn K cd22 "are_amounts" = true) (k22 : PySem.W.keepIn K (.ref f22) = true)
    (p23 : PySem.W.nsIn K mainGlobals "wrong_part" = some (some (.ref f23))) (l23 : K.lookup f23 = some ⟨oc23, od23, .func (PySem.W.fnOf "wrong_part" "wrong_part" (defArgs s_wrong_part) (defBody s_wrong_part) (defScope s_wrong_part) .none kV23 dc23 pm23 an23 cd23 ct23), sl23⟩) (c23 : PySem.W.codeIn K cd23 "wrong_part" = true) (k23 : PySem.W.keepIn K (.ref f23) = true)
    (p24 : PySem.W.nsIn K mainGlobals "check_item" = some (some (.ref f24))) (l24 : K.lookup f24 = some ⟨oc24, od24, .func (PySem.W.fnOf "check_item" "check_item" (defArgs s_check_item) (defBody s_check_item) (defScope s_check_item) .none kV24 dc24 pm24 an24 cd24 ct24), sl24⟩) (c24 : PySem.W.codeIn K cd24 "check_item" = true) (k24 : PySem.W.keepIn K (.ref f24) = true)
    (p25 : PySem.W.findIn K (.ref cC) "numbered" = some (some (.ref f25))) (i25 : PySem.W.isFn K (.ref f25) = true) (l25 : K.lookup f25 = some ⟨oc25, od25, .func (PySem.W.fnOf "numbered" "Ledger.numbered" (defArgs s_M_numbered) (defBody s_M_numbered) (defScope s_M_numbered) .none kV25 dc25 pm25 an25 cd25 ct25), sl25⟩) (c25 : PySem.W.codeIn K cd25 "Ledger.numbered" = true) (k25 : PySem.W.keepIn K (.ref f25) = true)
    (p26 : PySem.W.findIn K (.ref cC) "of_kind" = some (some (.ref f26))) (i26 : PySem.W.isFn K (.ref f26) = true) (l26 : K.lookup f26 = some ⟨oc26, od26, .func (PySem.W.fnOf "of_kind" "Ledger.of_kind" (defArgs s_M_of_kind) (defBody s_M_of_kind) (defScope s_M_of_kind) .none kV26 dc26 pm26 an26 cd26 ct26), sl26⟩) (c26 : PySem.W.codeIn K cd26 "Ledger.of_kind" = true) (k26 : PySem.W.keepIn K (.ref f26) = true)
    (p27 : PySem.W.findIn K (.ref cC) "add" = some (some (.ref f27))) (i27 : PySem.W.isFn K (.ref f27) = true) (l27 : K.lookup f27 = some ⟨oc27, od27, .func (PySem.W.fnOf "add" "Ledger.add" (defArgs s_M_add) (defBody s_M_add) (defScope s_M_add) .none kV27 dc27 pm27 an27 cd27 ct27), sl27⟩) (c27 : PySem.W.codeIn K cd27 "Ledger.add" = true) (k27 : PySem.W.keepIn K (.ref f27) = true)
    (p28 : PySem.W.findIn K (.ref cC) "need" = some (some (.ref f28))) (i28 : PySem.W.isFn K (.ref f28) = true) (l28 : K.lookup f28 = some ⟨oc28, od28, .func (PySem.W.fnOf "need" "Ledger.need" (defArgs s_M_need) (defBody s_M_need) (defScope s_M_need) .none kV28 dc28 pm28 an28 cd28 ct28), sl28⟩) (c28 : PySem.W.codeIn K cd28 "Ledger.need" = true) (k28 : PySem.W.keepIn K (.ref f28) = true)
    (p29 : PySem.W.findIn K (.ref cC) "drop" = some (some (.ref f29))) (i29 : PySem.W.isFn K (.ref f29) = true) (l29 : K.lookup f29 = some ⟨oc29, od29, .func (PySem.W.fnOf "drop" "Ledger.drop" (defArgs s_M_drop) (defBody s_M_drop) (defScope s_M_drop) .none kV29 dc29 pm29 an29 cd29 ct29), sl29⟩) (c29 : PySem.W.codeIn K cd29 "Ledger.drop" = true) (k29 : PySem.W.keepIn K (.ref f29) = true)
    (p30 : PySem.W.nsIn K mainGlobals "_law_ledger" = some (some (.ref f30))) (l30 : K.lookup f30 = some ⟨oc30, od30, .func (PySem.W.fnOf "_law_ledger" "_law_ledger" (defArgs s_u_law_ledger) (defBody s_u_law_ledger) (defScope s_u_law_ledger) .none kV30 dc30 pm30 an30 cd30 ct30), sl30⟩) (c30 : PySem.W.codeIn K cd30 "_law_ledger" = true) (k30 : PySem.W.keepIn K (.ref f30) = true)
    (p31 : PySem.W.nsIn K mainGlobals "lowest" = some (some (.ref f31))) (l31 : K.lookup f31 = some ⟨oc31, od31, .func (PySem.W.fnOf "lowest" "lowest" (defArgs s_lowest) (defBody s_lowest) (defScope s_lowest) .none kV31 dc31 pm31 an31 cd31 ct31), sl31⟩) (c31 : PySem.W.codeIn K cd31 "lowest" = true) (k31 : PySem.W.keepIn K (.ref f31) = true)
    (p32 : PySem.W.nsIn K mainGlobals "grain_of" = some (some (.ref f32))) (l32 : K.lookup f32 = some ⟨oc32, od32, .func (PySem.W.fnOf "grain_of" "grain_of" (defArgs s_grain_of) (defBody s_grain_of) (defScope s_grain_of) .none kV32 dc32 pm32 an32 cd32 ct32), sl32⟩) (c32 : PySem.W.codeIn K cd32 "grain_of" = true) (k32 : PySem.W.keepIn K (.ref f32) = true)
    (p33 : PySem.W.nsIn K mainGlobals "as_ratios" = some (some (.ref f33))) (l33 : K.lookup f33 = some ⟨oc33, od33, .func (PySem.W.fnOf "as_ratios" "as_ratios" (defArgs s_as_ratios) (defBody s_as_ratios) (defScope s_as_ratios) .none kV33 dc33 pm33 an33 cd33 ct33), sl33⟩) (c33 : PySem.W.codeIn K cd33 "as_ratios" = true) (k33 : PySem.W.keepIn K (.ref f33) = true)
    (p34 : PySem.W.nsIn K mainGlobals "meet" = some (some (.ref f34))) (l34 : K.lookup f34 = some ⟨oc34, od34, .func (PySem.W.fnOf "meet" "meet" (defArgs s_meet) (defBody s_meet) (defScope s_meet) .none kV34 dc34 pm34 an34 cd34 ct34), sl34⟩) (c34 : PySem.W.codeIn K cd34 "meet" = true) (k34 : PySem.W.keepIn K (.ref f34) = true)
    (p35 : PySem.W.nsIn K mainGlobals "arc_of" = some (some (.ref f35))) (l35 : K.lookup f35 = some ⟨oc35, od35, .func (PySem.W.fnOf "arc_of" "arc_of" (defArgs s_arc_of) (defBody s_arc_of) (defScope s_arc_of) .none kV35 dc35 pm35 an35 cd35 ct35), sl35⟩) (c35 : PySem.W.codeIn K cd35 "arc_of" = true) (k35 : PySem.W.keepIn K (.ref f35) = true)
    (p36 : PySem.W.nsIn K mainGlobals "given_before" = some (some (.ref f36))) (l36 : K.lookup f36 = some ⟨oc36, od36, .func (PySem.W.fnOf "given_before" "given_before" (defArgs s_given_before) (defBody s_given_before) (defScope s_given_before) .none kV36 dc36 pm36 an36 cd36 ct36), sl36⟩) (c36 : PySem.W.codeIn K cd36 "given_before" = true) (k36 : PySem.W.keepIn K (.ref f36) = true)
    (p37 : PySem.W.nsIn K mainGlobals "units_before" = some (some (.ref f37))) (l37 : K.lookup f37 = some ⟨oc37, od37, .func (PySem.W.fnOf "units_before" "units_before" (defArgs s_units_before) (defBody s_units_before) (defScope s_units_before) .none kV37 dc37 pm37 an37 cd37 ct37), sl37⟩) (c37 : PySem.W.codeIn K cd37 "units_before" = true) (k37 : PySem.W.keepIn K (.ref f37) = true)
    (p38 : PySem.W.nsIn K mainGlobals "greater_arc" = some (some (.ref f38))) (l38 : K.lookup f38 = some ⟨oc38, od38, .func (PySem.W.fnOf "greater_arc" "greater_arc" (defArgs s_greater_arc) (defBody s_greater_arc) (defScope s_greater_arc) .none kV38 dc38 pm38 an38 cd38 ct38), sl38⟩) (c38 : PySem.W.codeIn K cd38 "greater_arc" = true) (k38 : PySem.W.keepIn K (.ref f38) = true)
    (p39 : PySem.W.nsIn K mainGlobals "lesser_number" = some (some (.ref f39))) (l39 : K.lookup f39 = some ⟨oc39, od39, .func (PySem.W.fnOf "lesser_number" "lesser_number" (defArgs s_lesser_number) (defBody s_lesser_number) (defScope s_lesser_number) .none kV39 dc39 pm39 an39 cd39 ct39), sl39⟩) (c39 : PySem.W.codeIn K cd39 "lesser_number" = true) (k39 : PySem.W.keepIn K (.ref f39) = true)
    (p40 : PySem.W.nsIn K mainGlobals "outside" = some (some (.ref f40))) (l40 : K.lookup f40 = some ⟨oc40, od40, .func (PySem.W.fnOf "outside" "outside" (defArgs s_outside) (defBody s_outside) (defScope s_outside) .none kV40 dc40 pm40 an40 cd40 ct40), sl40⟩) (c40 : PySem.W.codeIn K cd40 "outside" = true) (k40 : PySem.W.keepIn K (.ref f40) = true)
    (p41 : PySem.W.nsIn K mainGlobals "allowed_units" = some (some (.ref f41))) (l41 : K.lookup f41 = some ⟨oc41, od41, .func (PySem.W.fnOf "allowed_units" "allowed_units" (defArgs s_allowed_units) (defBody s_allowed_units) (defScope s_allowed_units) .none kV41 dc41 pm41 an41 cd41 ct41), sl41⟩) (c41 : PySem.W.codeIn K cd41 "allowed_units" = true) (k41 : PySem.W.keepIn K (.ref f41) = true)
    (p42 : PySem.W.nsIn K mainGlobals "left_units" = some (some (.ref f42))) (l42 : K.lookup f42 = some ⟨oc42, od42, .func (PySem.W.fnOf "left_units" "left_units" (defArgs s_left_units) (defBody s_left_units) (defScope s_left_units) .none kV42 dc42 pm42 an42 cd42 ct42), sl42⟩) (c42 : PySem.W.codeIn K cd42 "left_units" = true) (k42 : PySem.W.keepIn K (.ref f42) = true)
    (p43 : PySem.W.findIn K (.ref cC) "entries" = some (some (.ref f43))) (i43 : PySem.W.isFn K (.ref f43) = true) (l43 : K.lookup f43 = some ⟨oc43, od43, .func (PySem.W.fnOf "entries" "Ledger.entries" (defArgs s_M_entries) (defBody s_M_entries) (defScope s_M_entries) .none kV43 dc43 pm43 an43 cd43 ct43), sl43⟩) (c43 : PySem.W.codeIn K cd43 "Ledger.entries" = true) (k43 : PySem.W.keepIn K (.ref f43) = true)
    (p44 : PySem.W.findIn K (.ref cC) "statements" = some (some (.ref f44))) (i44 : PySem.W.isFn K (.ref f44) = true) (l44 : K.lookup f44 = some ⟨oc44, od44, .func (PySem.W.fnOf "statements" "Ledger.statements" (defArgs s_M_statements) (defBody s_M_statements) (defScope s_M_statements) .none kV44 dc44 pm44 an44 cd44 ct44), sl44⟩) (c44 : PySem.W.codeIn K cd44 "Ledger.statements" = true) (k44 : PySem.W.keepIn K (.ref f44) = true)
    (p45 : PySem.W.nsIn K mainGlobals "left" = some (some (.ref f45))) (l45 : K.lookup f45 = some ⟨oc45, od45, .func (PySem.W.fnOf "left" "left" (defArgs s_left) (defBody s_left) (defScope s_left) .none kV45 dc45 pm45 an45 cd45 ct45), sl45⟩) (c45 : PySem.W.codeIn K cd45 "left" = true) (k45 : PySem.W.keepIn K (.ref f45) = true)
    (p46 : PySem.W.nsIn K mainGlobals "_law_near" = some (some (.ref f46))) (l46 : K.lookup f46 = some ⟨oc46, od46, .func (PySem.W.fnOf "_law_near" "_law_near" (defArgs s_u_law_near) (defBody s_u_law_near) (defScope s_u_law_near) .none kV46 dc46 pm46 an46 cd46 ct46), sl46⟩) (c46 : PySem.W.codeIn K cd46 "_law_near" = true) (k46 : PySem.W.keepIn K (.ref f46) = true)
    (p47 : PySem.W.nsIn K mainGlobals "is_cut" = some (some (.ref f47))) (l47 : K.lookup f47 = some ⟨oc47, od47, .func (PySem.W.fnOf "is_cut" "is_cut" (defArgs s_is_cut) (defBody s_is_cut) (defScope s_is_cut) .none kV47 dc47 pm47 an47 cd47 ct47), sl47⟩) (c47 : PySem.W.codeIn K cd47 "is_cut" = true) (k47 : PySem.W.keepIn K (.ref f47) = true)
    (p48 : PySem.W.nsIn K mainGlobals "check_cut" = some (some (.ref f48))) (l48 : K.lookup f48 = some ⟨oc48, od48, .func (PySem.W.fnOf "check_cut" "check_cut" (defArgs s_check_cut) (defBody s_check_cut) (defScope s_check_cut) .none kV48 dc48 pm48 an48 cd48 ct48), sl48⟩) (c48 : PySem.W.codeIn K cd48 "check_cut" = true) (k48 : PySem.W.keepIn K (.ref f48) = true)
    (p49 : PySem.W.nsIn K mainGlobals "check_stretch" = some (some (.ref f49))) (l49 : K.lookup f49 = some ⟨oc49, od49, .func (PySem.W.fnOf "check_stretch" "check_stretch" (defArgs s_check_stretch) (defBody s_check_stretch) (defScope s_check_stretch) .none kV49 dc49 pm49 an49 cd49 ct49), sl49⟩) (c49 : PySem.W.codeIn K cd49 "check_stretch" = true) (k49 : PySem.W.keepIn K (.ref f49) = true)
    (p50 : PySem.W.nsIn K mainGlobals "floor_of" = some (some (.ref f50))) (l50 : K.lookup f50 = some ⟨oc50, od50, .func (PySem.W.fnOf "floor_of" "floor_of" (defArgs s_floor_of) (defBody s_floor_of) (defScope s_floor_of) .none kV50 dc50 pm50 an50 cd50 ct50), sl50⟩) (c50 : PySem.W.codeIn K cd50 "floor_of" = true) (k50 : PySem.W.keepIn K (.ref f50) = true)
    (p51 : PySem.W.nsIn K mainGlobals "plus" = some (some (.ref f51))) (l51 : K.lookup f51 = some ⟨oc51, od51, .func (PySem.W.fnOf "plus" "plus" (defArgs s_plus) (defBody s_plus) (defScope s_plus) .none kV51 dc51 pm51 an51 cd51 ct51), sl51⟩) (c51 : PySem.W.codeIn K cd51 "plus" = true) (k51 : PySem.W.keepIn K (.ref f51) = true)
    (p52 : PySem.W.nsIn K mainGlobals "check_day" = some (some (.ref f52))) (l52 : K.lookup f52 = some ⟨oc52, od52, .func (PySem.W.fnOf "check_day" "check_day" (defArgs s_check_day) (defBody s_check_day) (defScope s_check_day) .none kV52 dc52 pm52 an52 cd52 ct52), sl52⟩) (c52 : PySem.W.codeIn K cd52 "check_day" = true) (k52 : PySem.W.keepIn K (.ref f52) = true)
    (p53 : PySem.W.nsIn K mainGlobals "sum_before" = some (some (.ref f53))) (l53 : K.lookup f53 = some ⟨oc53, od53, .func (PySem.W.fnOf "sum_before" "sum_before" (defArgs s_sum_before) (defBody s_sum_before) (defScope s_sum_before) .none kV53 dc53 pm53 an53 cd53 ct53), sl53⟩) (c53 : PySem.W.codeIn K cd53 "sum_before" = true) (k53 : PySem.W.keepIn K (.ref f53) = true)
    (p54 : PySem.W.nsIn K mainGlobals "total_by" = some (some (.ref f54))) (l54 : K.lookup f54 = some ⟨oc54, od54, .func (PySem.W.fnOf "total_by" "total_by" (defArgs s_total_by) (defBody s_total_by) (defScope s_total_by) .none kV54 dc54 pm54 an54 cd54 ct54), sl54⟩) (c54 : PySem.W.codeIn K cd54 "total_by" = true) (k54 : PySem.W.keepIn K (.ref f54) = true)
    (p55 : PySem.W.nsIn K mainGlobals "told" = some (some (.ref f55))) (l55 : K.lookup f55 = some ⟨oc55, od55, .func (PySem.W.fnOf "told" "told" (defArgs s_told) (defBody s_told) (defScope s_told) .none kV55 dc55 pm55 an55 cd55 ct55), sl55⟩) (c55 : PySem.W.codeIn K cd55 "told" = true) (k55 : PySem.W.keepIn K (.ref f55) = true)
    (p56 : PySem.W.nsIn K mainGlobals "parts_of" = some (some (.ref f56))) (l56 : K.lookup f56 = some ⟨oc56, od56, .func (PySem.W.fnOf "parts_of" "parts_of" (defArgs s_parts_of) (defBody s_parts_of) (defScope s_parts_of) .none kV56 dc56 pm56 an56 cd56 ct56), sl56⟩) (c56 : PySem.W.codeIn K cd56 "parts_of" = true) (k56 : PySem.W.keepIn K (.ref f56) = true)
    (p57 : PySem.W.nsIn K mainGlobals "numbers" = some (some (.ref f57))) (l57 : K.lookup f57 = some ⟨oc57, od57, .func (PySem.W.fnOf "numbers" "numbers" (defArgs s_numbers) (defBody s_numbers) (defScope s_numbers) .none kV57 dc57 pm57 an57 cd57 ct57), sl57⟩) (c57 : PySem.W.codeIn K cd57 "numbers" = true) (k57 : PySem.W.keepIn K (.ref f57) = true)
    (p58 : PySem.W.nsIn K mainGlobals "_law_right" = some (some (.ref f58))) (l58 : K.lookup f58 = some ⟨oc58, od58, .func (PySem.W.fnOf "_law_right" "_law_right" (defArgs s_u_law_right) (defBody s_u_law_right) (defScope s_u_law_right) .none kV58 dc58 pm58 an58 cd58 ct58), sl58⟩) (c58 : PySem.W.codeIn K cd58 "_law_right" = true) (k58 : PySem.W.keepIn K (.ref f58) = true)
    (p59 : PySem.W.nsIn K mainGlobals "law" = some (some (.ref f59))) (l59 : K.lookup f59 = some ⟨oc59, od59, .func (PySem.W.fnOf "law" "law" (defArgs s_law) (defBody s_law) (defScope s_law) .none kV59 dc59 pm59 an59 cd59 ct59), sl59⟩) (c59 : PySem.W.codeIn K cd59 "law" = true) (k59 : PySem.W.keepIn K (.ref f59) = true)
    (z_abs : PySem.W.nsIn K mainGlobals "abs" = some none)
    (z_all : PySem.W.nsIn K mainGlobals "all" = some none)
    (z_bool : PySem.W.nsIn K mainGlobals "bool" = some none)
    (z_divmod : PySem.W.nsIn K mainGlobals "divmod" = some none)
    (z_enumerate : PySem.W.nsIn K mainGlobals "enumerate" = some none)
    (z_int : PySem.W.nsIn K mainGlobals "int" = some none)
    (z_isinstance : PySem.W.nsIn K mainGlobals "isinstance" = some none)
    (z_len : PySem.W.nsIn K mainGlobals "len" = some none)
    (z_list : PySem.W.nsIn K mainGlobals "list" = some none)
    (z_max : PySem.W.nsIn K mainGlobals "max" = some none)
    (z_min : PySem.W.nsIn K mainGlobals "min" = some none)
    (z_range : PySem.W.nsIn K mainGlobals "range" = some none)
    (z_sorted : PySem.W.nsIn K mainGlobals "sorted" = some none)
    (z_str : PySem.W.nsIn K mainGlobals "str" = some none)
    (z_sum : PySem.W.nsIn K mainGlobals "sum" = some none)
    (z_tuple : PySem.W.nsIn K mainGlobals "tuple" = some none)
    {tk_ENTRY : Tok} (q_ENTRY : PySem.W.nsIn K mainGlobals "ENTRY" = some (some (.str "entry" tk_ENTRY)))
    {tk_LAST_DAY : Tok} (q_LAST_DAY : PySem.W.nsIn K mainGlobals "LAST_DAY" = some (some (.int 1000000000000000000000000000000 tk_LAST_DAY)))
    {r_MOST : Addr} {es_MOST : Array DictEntry} {n_MOST : Nat} {s0_MOST s1_MOST : Tok} (q_MOST : PySem.W.nsIn K mainGlobals "MOST" = some (some (.ref r_MOST))) (ql_MOST : K.lookup r_MOST = some ⟨.type "dict", none, .dict es_MOST n_MOST, #[]⟩) (qk_MOST : PySem.W.KeysLit w.params es_MOST.toList) (qe0_MOST : PySem.W.nsIn K r_MOST "entry" = some (some (.int 6 s0_MOST))) (qe1_MOST : PySem.W.nsIn K r_MOST "statement" = some (some (.int 24 s1_MOST)))
    {tk_MOST_AMOUNTS : Tok} (q_MOST_AMOUNTS : PySem.W.nsIn K mainGlobals "MOST_AMOUNTS" = some (some (.int 4 tk_MOST_AMOUNTS)))
    {tk_MOST_PART : Tok} (q_MOST_PART : PySem.W.nsIn K mainGlobals "MOST_PART" = some (some (.int 1000000 tk_MOST_PART)))
    {tk_STATEMENT : Tok} (q_STATEMENT : PySem.W.nsIn K mainGlobals "STATEMENT" = some (some (.str "statement" tk_STATEMENT))) :
    ∃ fd : FuncData, (∀ (s : Shared) (v : Value), BindsTo s fd ⟨[v], []⟩ [("script", v)]) ∧ ∀ base : Heap, K.In base → base.Ns mainGlobals mg → LawOk l.prog w K mg base fa fd := by
  have e := hfa.symm.trans (PySem.W.mg_of X G p59)
  cases e
  have F0 := fun_mk (st := s_u_law_bag) l0 c0 k0
  have F1 := fun_mk (st := s_u_law_take) l1 c1 k1
  have F2 := fun_mk (st := s_u_law_part) l2 c2 k2
  have F3 := fun_mk (st := s_u_law_lowest) l3 c3 k3
  have F4 := fun_mk (st := s_u_law_amount) l4 c4 k4
  have F5 := fun_mk (st := s_u_law_entry) l5 c5 k5
  have F6 := fun_mk (st := s_u_law_entries) l6 c6 k6
  have F7 := fun_mk (st := s_u_law_grain) l7 c7 k7
  have F8 := fun_mk (st := s_u_law_stretch) l8 c8 k8
  have F9 := fun_mk (st := s_u_law_before) l9 c9 k9
  have F10 := fun_mk (st := s_u_law_told) l10 c10 k10
  have F11 := fun_mk (st := s_u_law_statements) l11 c11 k11
  have F12 := fun_mk (st := s_u_law_case) l12 c12 k12
  have F13 := fun_mk (st := s_u_law_days) l13 c13 k13
  have F14 := fun_mk (st := s_is_integer_kinds) l14 c14 k14
  have F15 := fun_mk (st := s_is_within) l15 c15 k15
  have F16 := fun_mk (st := s_is_day) l16 c16 k16
  have F17 := fun_mk (st := s_is_stretch) l17 c17 k17
  have F18 := fun_mk (st := s_is_integer_ratios) l18 c18 k18
  have F19 := fun_mk (st := s_common) l19 c19 k19
  have F20 := fun_mk (st := s_is_ratio) l20 c20 k20
  have F21 := fun_mk (st := s_is_amount) l21 c21 k21
  have F22 := fun_mk (st := s_are_amounts) l22 c22 k22
  have F23 := fun_mk (st := s_wrong_part) l23 c23 k23
  have F24 := fun_mk (st := s_check_item) l24 c24 k24
  have F25 := fun_mk (st := s_M_numbered) l25 c25 k25
  have F26 := fun_mk (st := s_M_of_kind) l26 c26 k26
  have F27 := fun_mk (st := s_M_add) l27 c27 k27
  have F28 := fun_mk (st := s_M_need) l28 c28 k28
  have F29 := fun_mk (st := s_M_drop) l29 c29 k29
  have F30 := fun_mk (st := s_u_law_ledger) l30 c30 k30
  have F31 := fun_mk (st := s_lowest) l31 c31 k31
  have F32 := fun_mk (st := s_grain_of) l32 c32 k32
  have F33 := fun_mk (st := s_as_ratios) l33 c33 k33
  have F34 := fun_mk (st := s_meet) l34 c34 k34
  have F35 := fun_mk (st := s_arc_of) l35 c35 k35
  have F36 := fun_mk (st := s_given_before) l36 c36 k36
  have F37 := fun_mk (st := s_units_before) l37 c37 k37
  have F38 := fun_mk (st := s_greater_arc) l38 c38 k38
  have F39 := fun_mk (st := s_lesser_number) l39 c39 k39
  have F40 := fun_mk (st := s_outside) l40 c40 k40
  have F41 := fun_mk (st := s_allowed_units) l41 c41 k41
  have F42 := fun_mk (st := s_left_units) l42 c42 k42
  have F43 := fun_mk (st := s_M_entries) l43 c43 k43
  have F44 := fun_mk (st := s_M_statements) l44 c44 k44
  have F45 := fun_mk (st := s_left) l45 c45 k45
  have F46 := fun_mk (st := s_u_law_near) l46 c46 k46
  have F47 := fun_mk (st := s_is_cut) l47 c47 k47
  have F48 := fun_mk (st := s_check_cut) l48 c48 k48
  have F49 := fun_mk (st := s_check_stretch) l49 c49 k49
  have F50 := fun_mk (st := s_floor_of) l50 c50 k50
  have F51 := fun_mk (st := s_plus) l51 c51 k51
  have F52 := fun_mk (st := s_check_day) l52 c52 k52
  have F53 := fun_mk (st := s_sum_before) l53 c53 k53
  have F54 := fun_mk (st := s_total_by) l54 c54 k54
  have F55 := fun_mk (st := s_told) l55 c55 k55
  have F56 := fun_mk (st := s_parts_of) l56 c56 k56
  have F57 := fun_mk (st := s_numbers) l57 c57 k57
  have F58 := fun_mk (st := s_u_law_right) l58 c58 k58
  have F59 := fun_mk (st := s_law) l59 c59 k59
  have FI := fun_mk (st := s_I) hlI hdI hkI
  have T : Top K w mg _ _ _ _ _ _ _ _ _ _ _ _ _ _ _ _ _ _ _ _ _ _ _ _ _ _ _ _ _ _ _ _ _ _ _ _ _ _ _ _ _ _ _ _ _ _ _ _ _ _ _ _ _ _ _ _ _ _ _ _ _ _ _ _ _ _ _ _ _ _ _ _ _ _ _ _ _ _ _ _ _ _ _ _ _ _ _ _ _ _ _ _ _ _ _ _ _ _ _ _ _ _ _ _ _ _ _ _ _ _ _ _ _ _ _ _ _ _ _ _ _ _ _ := ⟨F0, PySem.W.mg_of X G p0, F0.binds (ps := ["script", "at"]) (fun _ _ _ _ _ _ us hl => match us, hl with | [_, _], _ => rfl), F1, PySem.W.mg_of X G p1, F1.binds (ps := ["bag", "size"]) (fun _ _ _ _ _ _ us hl => match us, hl with | [_, _], _ => rfl), F2, PySem.W.mg_of X G p2, F2.binds (ps := ["one", "other"]) (fun _ _ _ _ _ _ us hl => match us, hl with | [_, _], _ => rfl), F3, PySem.W.mg_of X G p3, F3.binds (ps := ["top", "under"]) (fun _ _ _ _ _ _ us hl => match us, hl with | [_, _], _ => rfl), F4, PySem.W.mg_of X G p4, F4.binds (ps := ["bag"]) (fun _ _ _ _ _ _ us hl => match us, hl with | [_], _ => rfl), F5, PySem.W.mg_of X G p5, F5.binds (ps := ["bag", "last"]) (fun _ _ _ _ _ _ us hl => match us, hl with | [_, _], _ => rfl), F6, PySem.W.mg_of X G p6, F6.binds (ps := ["bag", "last", "most"]) (fun _ _ _ _ _ _ us hl => match us, hl with | [_, _, _], _ => rfl), F7, PySem.W.mg_of X G p7, F7.binds (ps := ["entries"]) (fun _ _ _ _ _ _ us hl => match us, hl with | [_], _ => rfl), F8, PySem.W.mg_of X G p8, F8.binds (ps := ["bag", "last"]) (fun _ _ _ _ _ _ us hl => match us, hl with | [_, _], _ => rfl), F9, PySem.W.mg_of X G p9, F9.binds (ps := ["entries", "day", "grain"]) (fun _ _ _ _ _ _ us hl => match us, hl with | [_, _, _], _ => rfl), F10, PySem.W.mg_of X G p10, F10.binds (ps := ["entries", "unit", "first", "many", "grain"]) (fun _ _ _ _ _ _ us hl => match us, hl with | [_, _, _, _, _], _ => rfl), F11, PySem.W.mg_of X G p11, F11.binds (ps := ["bag", "entries", "last", "most"]) (fun _ _ _ _ _ _ us hl => match us, hl with | [_, _, _, _], _ => rfl), F12, PySem.W.mg_of X G p12, F12.binds (ps := ["bag", "most"]) (fun _ _ _ _ _ _ us hl => match us, hl with | [_, _], _ => rfl), F13, PySem.W.mg_of X G p13, F13.binds (ps := ["bag", "entries", "last", "grain"]) (fun _ _ _ _ _ _ us hl => match us, hl with | [_, _, _, _], _ => rfl), F14, PySem.W.mg_of X G p14, F14.binds (ps := ["thing"]) (fun _ _ _ _ _ _ us hl => match us, hl with | [_], _ => rfl), F15, PySem.W.mg_of X G p15, F15.binds (ps := ["thing", "low", "high"]) (fun _ _ _ _ _ _ us hl => match us, hl with | [_, _, _], _ => rfl), F16, PySem.W.mg_of X G p16, F16.binds (ps := ["thing"]) (fun _ _ _ _ _ _ us hl => match us, hl with | [_], _ => rfl), F17, PySem.W.mg_of X G p17, F17.binds (ps := ["thing"]) (fun _ _ _ _ _ _ us hl => match us, hl with | [_], _ => rfl), F18, PySem.W.mg_of X G p18, F18.binds (ps := ["thing"]) (fun _ _ _ _ _ _ us hl => match us, hl with | [_], _ => rfl), F19, PySem.W.mg_of X G p19, F19.binds (ps := ["one", "other"]) (fun _ _ _ _ _ _ us hl => match us, hl with | [_, _], _ => rfl), F20, PySem.W.mg_of X G p20, F20.binds (ps := ["thing"]) (fun _ _ _ _ _ _ us hl => match us, hl with | [_], _ => rfl), F21, PySem.W.mg_of X G p21, F21.binds (ps := ["thing"]) (fun _ _ _ _ _ _ us hl => match us, hl with | [_], _ => rfl), F22, PySem.W.mg_of X G p22, F22.binds (ps := ["thing"]) (fun _ _ _ _ _ _ us hl => match us, hl with | [_], _ => rfl), F23, PySem.W.mg_of X G p23, F23.binds (ps := ["thing"]) (fun _ _ _ _ _ _ us hl => match us, hl with | [_], _ => rfl), F24, PySem.W.mg_of X G p24, F24.binds (ps := ["thing"]) (fun _ _ _ _ _ _ us hl => match us, hl with | [_], _ => rfl), F25, ⟨p25, i25, k25⟩, F25.binds (ps := ["self"]) (fun _ _ _ _ _ _ us hl => match us, hl with | [_], _ => rfl), F26, ⟨p26, i26, k26⟩, F26.binds (ps := ["self", "kind"]) (fun _ _ _ _ _ _ us hl => match us, hl with | [_, _], _ => rfl), F27, ⟨p27, i27, k27⟩, F27.binds (ps := ["self", "item"]) (fun _ _ _ _ _ _ us hl => match us, hl with | [_, _], _ => rfl), F28, ⟨p28, i28, k28⟩, F28.binds (ps := ["self", "number"]) (fun _ _ _ _ _ _ us hl => match us, hl with | [_, _], _ => rfl), F29, ⟨p29, i29, k29⟩, F29.binds (ps := ["self", "number"]) (fun _ _ _ _ _ _ us hl => match us, hl with | [_, _], _ => rfl), F30, PySem.W.mg_of X G p30, F30.binds (ps := ["bag", "entries", "statements"]) (fun _ _ _ _ _ _ us hl => match us, hl with | [_, _, _], _ => rfl), F31, PySem.W.mg_of X G p31, F31.binds (ps := ["top", "under"]) (fun _ _ _ _ _ _ us hl => match us, hl with | [_, _], _ => rfl), F32, PySem.W.mg_of X G p32, F32.binds (ps := ["entries"]) (fun _ _ _ _ _ _ us hl => match us, hl with | [_], _ => rfl), F33, PySem.W.mg_of X G p33, F33.binds (ps := ["spans", "grain"]) (fun _ _ _ _ _ _ us hl => match us, hl with | [_, _], _ => rfl), F34, PySem.W.mg_of X G p34, F34.binds (ps := ["one", "other"]) (fun _ _ _ _ _ _ us hl => match us, hl with | [_, _], _ => rfl), F35, PySem.W.mg_of X G p35, F35.binds (ps := ["low", "high", "grain"]) (fun _ _ _ _ _ _ us hl => match us, hl with | [_, _, _], _ => rfl), F36, PySem.W.mg_of X G p36, F36.binds (ps := ["entry", "day", "grain"]) (fun _ _ _ _ _ _ us hl => match us, hl with | [_, _, _], _ => rfl), F37, PySem.W.mg_of X G p37, F37.binds (ps := ["entries", "day", "grain"]) (fun _ _ _ _ _ _ us hl => match us, hl with | [_, _, _], _ => rfl), F38, PySem.W.mg_of X G p38, F38.binds (ps := ["entries", "stretch", "grain"]) (fun _ _ _ _ _ _ us hl => match us, hl with | [_, _, _], _ => rfl), F39, PySem.W.mg_of X G p39, F39.binds (ps := ["entries", "stretch", "grain"]) (fun _ _ _ _ _ _ us hl => match us, hl with | [_, _, _], _ => rfl), F40, PySem.W.mg_of X G p40, F40.binds (ps := ["one", "grain"]) (fun _ _ _ _ _ _ us hl => match us, hl with | [_, _], _ => rfl), F41, PySem.W.mg_of X G p41, F41.binds (ps := ["entries", "statement", "grain"]) (fun _ _ _ _ _ _ us hl => match us, hl with | [_, _, _], _ => rfl), F42, PySem.W.mg_of X G p42, F42.binds (ps := ["entries", "statements", "grain"]) (fun _ _ _ _ _ _ us hl => match us, hl with | [_, _, _], _ => rfl), F43, ⟨p43, i43, k43⟩, F43.binds (ps := ["self"]) (fun _ _ _ _ _ _ us hl => match us, hl with | [_], _ => rfl), F44, ⟨p44, i44, k44⟩, F44.binds (ps := ["self"]) (fun _ _ _ _ _ _ us hl => match us, hl with | [_], _ => rfl), F45, PySem.W.mg_of X G p45, F45.binds (ps := ["ledger"]) (fun _ _ _ _ _ _ us hl => match us, hl with | [_], _ => rfl), F46, PySem.W.mg_of X G p46, F46.binds (ps := ["entries", "found", "grain"]) (fun _ _ _ _ _ _ us hl => match us, hl with | [_, _, _], _ => rfl), F47, PySem.W.mg_of X G p47, F47.binds (ps := ["thing"]) (fun _ _ _ _ _ _ us hl => match us, hl with | [_], _ => rfl), F48, PySem.W.mg_of X G p48, F48.binds (ps := ["thing"]) (fun _ _ _ _ _ _ us hl => match us, hl with | [_], _ => rfl), F49, PySem.W.mg_of X G p49, F49.binds (ps := ["thing"]) (fun _ _ _ _ _ _ us hl => match us, hl with | [_], _ => rfl), F50, PySem.W.mg_of X G p50, F50.binds (ps := ["ratio"]) (fun _ _ _ _ _ _ us hl => match us, hl with | [_], _ => rfl), F51, PySem.W.mg_of X G p51, F51.binds (ps := ["one", "other"]) (fun _ _ _ _ _ _ us hl => match us, hl with | [_, _], _ => rfl), F52, PySem.W.mg_of X G p52, F52.binds (ps := ["thing"]) (fun _ _ _ _ _ _ us hl => match us, hl with | [_], _ => rfl), F53, PySem.W.mg_of X G p53, F53.binds (ps := ["entries", "day"]) (fun _ _ _ _ _ _ us hl => match us, hl with | [_, _], _ => rfl), F54, PySem.W.mg_of X G p54, F54.binds (ps := ["entries", "cut", "day"]) (fun _ _ _ _ _ _ us hl => match us, hl with | [_, _, _], _ => rfl), F55, PySem.W.mg_of X G p55, F55.binds (ps := ["ledger", "cut", "stretch"]) (fun _ _ _ _ _ _ us hl => match us, hl with | [_, _, _], _ => rfl), F56, PySem.W.mg_of X G p56, F56.binds (ps := ["ledger", "stretch"]) (fun _ _ _ _ _ _ us hl => match us, hl with | [_, _], _ => rfl), F57, PySem.W.mg_of X G p57, F57.binds (ps := ["ledger", "stretch"]) (fun _ _ _ _ _ _ us hl => match us, hl with | [_, _], _ => rfl), F58, PySem.W.mg_of X G p58, F58.binds (ps := ["bag"]) (fun _ _ _ _ _ _ us hl => match us, hl with | [_], _ => rfl), F59, PySem.W.mg_of X G p59, F59.binds (ps := ["script"]) (fun _ _ _ _ _ _ us hl => match us, hl with | [_], _ => rfl), ⟨⟨hpg, hhd, hpo, hsa⟩, hcC, hnP, hnC⟩, PySem.W.mg_of X G hcC, ⟨hmk, hpI, hiI, hkc⟩, FI.binds (ps := ["self"]) (fun _ _ _ _ _ _ us hl => match us, hl with | [_], _ => rfl), PySem.W.mg_none_of X G z_abs, PySem.W.mg_none_of X G z_all, PySem.W.mg_none_of X G z_bool, PySem.W.mg_none_of X G z_divmod, PySem.W.mg_none_of X G z_enumerate, PySem.W.mg_none_of X G z_int, PySem.W.mg_none_of X G z_isinstance, PySem.W.mg_none_of X G z_len, PySem.W.mg_none_of X G z_list, PySem.W.mg_none_of X G z_max, PySem.W.mg_none_of X G z_min, PySem.W.mg_none_of X G z_range, PySem.W.mg_none_of X G z_sorted, PySem.W.mg_none_of X G z_str, PySem.W.mg_none_of X G z_sum, PySem.W.mg_none_of X G z_tuple, cst_str (PySem.W.mg_of X G q_ENTRY), cst_int (PySem.W.mg_of X G q_LAST_DAY), cdict2 (PySem.W.mg_of X G q_MOST) ql_MOST qk_MOST qe0_MOST qe1_MOST, cst_int (PySem.W.mg_of X G q_MOST_AMOUNTS), cst_int (PySem.W.mg_of X G q_MOST_PART), cst_str (PySem.W.mg_of X G q_STATEMENT)⟩
  refine ⟨PySem.W.fnOf "law" "law" (defArgs s_law) (defBody s_law) (defScope s_law) .none kV59 dc59 pm59 an59 cd59 ct59, fun s v => .of_eq rfl, fun base _ _ => ?_⟩
  have GI := ok_ledInit (P := l.prog) (w := w) (mg := mg) (base := base) FI sc_I T.L rfl rfl
  have G_u_law_bag := ok_u_law_bag (P := l.prog) (w := w) (base := base) T 
  have G_u_law_take := ok_u_law_take (P := l.prog) (w := w) (base := base) T 
  have G_u_law_part := ok_u_law_part (P := l.prog) (w := w) (base := base) T 
  have G_u_law_lowest := ok_u_law_lowest (P := l.prog) (w := w) (base := base) T G_u_law_part
  have G_u_law_amount := ok_u_law_amount (P := l.prog) (w := w) (base := base) T G_u_law_lowest G_u_law_take
  have G_u_law_entry := ok_u_law_entry (P := l.prog) (w := w) (base := base) T G_u_law_take G_u_law_amount
  have G_u_law_entries := ok_u_law_entries (P := l.prog) (w := w) (base := base) T G_u_law_entry G_u_law_take
  have G_u_law_grain := ok_u_law_grain (P := l.prog) (w := w) (base := base) T G_u_law_part
  have G_u_law_stretch := ok_u_law_stretch (P := l.prog) (w := w) (base := base) T G_u_law_take
  have G_u_law_before := ok_u_law_before (P := l.prog) (w := w) (base := base) T 
  have G_u_law_told := ok_u_law_told (P := l.prog) (w := w) (base := base) T G_u_law_before
  have G_u_law_statements := ok_u_law_statements (P := l.prog) (w := w) (base := base) T G_u_law_grain G_u_law_take G_u_law_stretch G_u_law_told
  have G_u_law_case := ok_u_law_case (P := l.prog) (w := w) (base := base) T G_u_law_entries G_u_law_statements G_u_law_take G_u_law_grain G_u_law_lowest
  have G_u_law_days := ok_u_law_days (P := l.prog) (w := w) (base := base) T G_u_law_take G_u_law_told
  have G_is_integer_kinds := ok_is_integer_kinds (P := l.prog) (w := w) (base := base) T 
  have G_is_within := ok_is_within (P := l.prog) (w := w) (base := base) T G_is_integer_kinds
  have G_is_day := ok_is_day (P := l.prog) (w := w) (base := base) T G_is_within
  have G_is_stretch := ok_is_stretch (P := l.prog) (w := w) (base := base) T G_is_within G_is_day
  have G_is_integer_ratios := ok_is_integer_ratios (P := l.prog) (w := w) (base := base) T 
  have G_common := ok_common (P := l.prog) (w := w) (base := base) T 
  have G_is_ratio := ok_is_ratio (P := l.prog) (w := w) (base := base) T G_is_integer_ratios G_common
  have G_is_amount := ok_is_amount (P := l.prog) (w := w) (base := base) T G_is_ratio
  have G_are_amounts := ok_are_amounts (P := l.prog) (w := w) (base := base) T G_is_amount
  have G_wrong_part := ok_wrong_part (P := l.prog) (w := w) (base := base) T G_is_day G_is_stretch G_are_amounts G_is_integer_kinds
  have G_check_item := ok_check_item (P := l.prog) (w := w) (base := base) T G_wrong_part
  have G_M_numbered := ok_M_numbered (P := l.prog) (w := w) (base := base) T 
  have G_M_of_kind := ok_M_of_kind (P := l.prog) (w := w) (base := base) T G_M_numbered
  have G_M_add := ok_M_add (P := l.prog) (w := w) (base := base) T G_check_item G_M_of_kind
  have G_M_need := ok_M_need (P := l.prog) (w := w) (base := base) T G_is_integer_kinds
  have G_M_drop := ok_M_drop (P := l.prog) (w := w) (base := base) T G_M_need
  have G_u_law_ledger := ok_u_law_ledger (P := l.prog) (w := w) (base := base) T GI G_u_law_take G_M_add G_M_drop
  have G_lowest := ok_lowest (P := l.prog) (w := w) (base := base) T G_common
  have G_grain_of := ok_grain_of (P := l.prog) (w := w) (base := base) T G_lowest
  have G_as_ratios := ok_as_ratios (P := l.prog) (w := w) (base := base) T G_lowest
  have G_meet := ok_meet (P := l.prog) (w := w) (base := base) T 
  have G_arc_of := ok_arc_of (P := l.prog) (w := w) (base := base) T 
  have G_given_before := ok_given_before (P := l.prog) (w := w) (base := base) T 
  have G_units_before := ok_units_before (P := l.prog) (w := w) (base := base) T G_given_before
  have G_greater_arc := ok_greater_arc (P := l.prog) (w := w) (base := base) T G_arc_of G_units_before
  have G_lesser_number := ok_lesser_number (P := l.prog) (w := w) (base := base) T G_units_before
  have G_outside := ok_outside (P := l.prog) (w := w) (base := base) T 
  have G_allowed_units := ok_allowed_units (P := l.prog) (w := w) (base := base) T G_greater_arc G_lesser_number G_outside
  have G_left_units := ok_left_units (P := l.prog) (w := w) (base := base) T G_meet G_allowed_units
  have G_M_entries := ok_M_entries (P := l.prog) (w := w) (base := base) T G_M_of_kind
  have G_M_statements := ok_M_statements (P := l.prog) (w := w) (base := base) T G_M_of_kind
  have G_left := ok_left (P := l.prog) (w := w) (base := base) T G_grain_of G_as_ratios G_left_units G_M_entries G_M_statements
  have G_u_law_near := ok_u_law_near (P := l.prog) (w := w) (base := base) T G_u_law_before
  have G_is_cut := ok_is_cut (P := l.prog) (w := w) (base := base) T G_is_ratio
  have G_check_cut := ok_check_cut (P := l.prog) (w := w) (base := base) T G_is_cut
  have G_check_stretch := ok_check_stretch (P := l.prog) (w := w) (base := base) T G_is_stretch
  have G_floor_of := ok_floor_of (P := l.prog) (w := w) (base := base) T 
  have G_plus := ok_plus (P := l.prog) (w := w) (base := base) T G_lowest
  have G_check_day := ok_check_day (P := l.prog) (w := w) (base := base) T G_is_day
  have G_sum_before := ok_sum_before (P := l.prog) (w := w) (base := base) T G_check_day G_grain_of G_lowest G_units_before
  have G_total_by := ok_total_by (P := l.prog) (w := w) (base := base) T G_floor_of G_plus G_sum_before
  have G_told := ok_told (P := l.prog) (w := w) (base := base) T G_check_cut G_check_stretch G_total_by G_M_entries
  have G_parts_of := ok_parts_of (P := l.prog) (w := w) (base := base) T G_check_stretch G_grain_of G_lesser_number G_left_units G_greater_arc G_meet G_outside G_M_entries G_M_statements
  have G_numbers := ok_numbers (P := l.prog) (w := w) (base := base) T G_parts_of
  have G_u_law_right := ok_u_law_right (P := l.prog) (w := w) (base := base) T G_u_law_case G_u_law_days G_u_law_ledger G_left G_u_law_near G_told G_numbers
  exact ok_law T G_u_law_bag G_u_law_right
end Claim
open PySem PySem.W PyProof.Rows
set_option maxHeartbeats 0 in
theorem PySem.Challenge.cw_onecut_k48_whole_every_telling_is_a_cut_holds : PySem.Challenge.rw_onecut_k48_whole_every_telling_is_a_cut.Holds := by
  w_on; o_law; k_head; (case hw => w_witness2)
  k_fill
  refine Pu.walk_law (l := PySem.Challenge.rw_onecut_k48_whole_every_telling_is_a_cut) (n := 63) rfl (by decide) rfl (fun w h Y => PySem.W.kIn_of Y) ?F
  case F =>
    intro w mg fa h KX G hmg
    refine' Claim.all_mk KX G hmg ?p0 ?l0 ?c0 ?k0 ?p1 ?l1 ?c1 ?k1 ?p2 ?l2 ?c2 ?k2 ?p3 ?l3 ?c3 ?k3 ?p4 ?l4 ?c4 ?k4 ?p5 ?l5 ?c5 ?k5 ?p6 ?l6 ?c6 ?k6 ?p7 ?l7 ?c7 ?k7 ?p8 ?l8 ?c8 ?k8 ?p9 ?l9 ?c9 ?k9 ?p10 ?l10 ?c10 ?k10 ?p11 ?l11 ?c11 ?k11 ?p12 ?l12 ?c12 ?k12 ?p13 ?l13 ?c13 ?k13 ?p14 ?l14 ?c14 ?k14 ?p15 ?l15 ?c15 ?k15 ?p16 ?l16 ?c16 ?k16 ?p17 ?l17 ?c17 ?k17 ?p18 ?l18 ?c18 ?k18 ?p19 ?l19 ?c19 ?k19 ?p20 ?l20 ?c20 ?k20 ?p21 ?l21 ?c21 ?k21 ?p22 ?l22 ?c22 ?k22 ?p23 ?l23 ?c23 ?k23 ?p24 ?l24 ?c24 ?k24 ?p25 ?i25 ?l25 ?c25 ?k25 ?p26 ?i26 ?l26 ?c26 ?k26 ?p27 ?i27 ?l27 ?c27 ?k27 ?p28 ?i28 ?l28 ?c28 ?k28 ?p29 ?i29 ?l29 ?c29 ?k29 ?p30 ?l30 ?c30 ?k30 ?p31 ?l31 ?c31 ?k31 ?p32 ?l32 ?c32 ?k32 ?p33 ?l33 ?c33 ?k33 ?p34 ?l34 ?c34 ?k34 ?p35 ?l35 ?c35 ?k35 ?p36 ?l36 ?c36 ?k36 ?p37 ?l37 ?c37 ?k37 ?p38 ?l38 ?c38 ?k38 ?p39 ?l39 ?c39 ?k39 ?p40 ?l40 ?c40 ?k40 ?p41 ?l41 ?c41 ?k41 ?p42 ?l42 ?c42 ?k42 ?p43 ?i43 ?l43 ?c43 ?k43 ?p44 ?i44 ?l44 ?c44 ?k44 ?p45 ?l45 ?c45 ?k45 ?p46 ?l46 ?c46 ?k46 ?p47 ?l47 ?c47 ?k47 ?p48 ?l48 ?c48 ?k48 ?p49 ?l49 ?c49 ?k49 ?p50 ?l50 ?c50 ?k50 ?p51 ?l51 ?c51 ?k51 ?p52 ?l52 ?c52 ?k52 ?p53 ?l53 ?c53 ?k53 ?p54 ?l54 ?c54 ?k54 ?p55 ?l55 ?c55 ?k55 ?p56 ?l56 ?c56 ?k56 ?p57 ?l57 ?c57 ?k57 ?p58 ?l58 ?c58 ?k58 ?p59 ?l59 ?c59 ?k59 ?hcC ?hpg ?hhd ?hpo ?hsa ?hnP ?hnC ?hpI ?hiI ?hlI ?hdI ?hkI ?hmk ?hkc ?z_abs ?z_all ?z_bool ?z_divmod ?z_enumerate ?z_int ?z_isinstance ?z_len ?z_list ?z_max ?z_min ?z_range ?z_sorted ?z_str ?z_sum ?z_tuple ?q_ENTRY ?q_LAST_DAY ?q_MOST ?ql_MOST ?qk_MOST ?qe0_MOST ?qe1_MOST ?q_MOST_AMOUNTS ?q_MOST_PART ?q_STATEMENT
    (case p0 => k_is)
    (case l0 => k_is)
    (case c0 => k_is)
    (case k0 => k_is)
    (case p1 => k_is)
    (case l1 => k_is)
    (case c1 => k_is)
    (case k1 => k_is)
    (case p2 => k_is)
    (case l2 => k_is)
    (case c2 => k_is)
    (case k2 => k_is)
    (case p3 => k_is)
    (case l3 => k_is)
    (case c3 => k_is)
    (case k3 => k_is)
    (case p4 => k_is)
    (case l4 => k_is)
    (case c4 => k_is)
    (case k4 => k_is)
    (case p5 => k_is)
    (case l5 => k_is)
    (case c5 => k_is)
    (case k5 => k_is)
    (case p6 => k_is)
    (case l6 => k_is)
    (case c6 => k_is)
    (case k6 => k_is)
    (case p7 => k_is)
    (case l7 => k_is)
    (case c7 => k_is)
    (case k7 => k_is)
    (case p8 => k_is)
    (case l8 => k_is)
    (case c8 => k_is)
    (case k8 => k_is)
    (case p9 => k_is)
    (case l9 => k_is)
    (case c9 => k_is)
    (case k9 => k_is)
    (case p10 => k_is)
    (case l10 => k_is)
    (case c10 => k_is)
    (case k10 => k_is)
    (case p11 => k_is)
    (case l11 => k_is)
    (case c11 => k_is)
    (case k11 => k_is)
    (case p12 => k_is)
    (case l12 => k_is)
    (case c12 => k_is)
    (case k12 => k_is)
    (case p13 => k_is)
    (case l13 => k_is)
    (case c13 => k_is)
    (case k13 => k_is)
    (case p14 => k_is)
    (case l14 => k_is)
    (case c14 => k_is)
    (case k14 => k_is)
    (case p15 => k_is)
    (case l15 => k_is)
    (case c15 => k_is)
    (case k15 => k_is)
    (case p16 => k_is)
    (case l16 => k_is)
    (case c16 => k_is)
    (case k16 => k_is)
    (case p17 => k_is)
    (case l17 => k_is)
    (case c17 => k_is)
    (case k17 => k_is)
    (case p18 => k_is)
    (case l18 => k_is)
    (case c18 => k_is)
    (case k18 => k_is)
    (case p19 => k_is)
    (case l19 => k_is)
    (case c19 => k_is)
    (case k19 => k_is)
    (case p20 => k_is)
    (case l20 => k_is)
    (case c20 => k_is)
    (case k20 => k_is)
    (case p21 => k_is)
    (case l21 => k_is)
    (case c21 => k_is)
    (case k21 => k_is)
    (case p22 => k_is)
    (case l22 => k_is)
    (case c22 => k_is)
    (case k22 => k_is)
    (case p23 => k_is)
    (case l23 => k_is)
    (case c23 => k_is)
    (case k23 => k_is)
    (case p24 => k_is)
    (case l24 => k_is)
    (case c24 => k_is)
    (case k24 => k_is)
    (case p25 => k_is)
    (case i25 => k_is)
    (case l25 => k_is)
    (case c25 => k_is)
    (case k25 => k_is)
    (case p26 => k_is)
    (case i26 => k_is)
    (case l26 => k_is)
    (case c26 => k_is)
    (case k26 => k_is)
    (case p27 => k_is)
    (case i27 => k_is)
    (case l27 => k_is)
    (case c27 => k_is)
    (case k27 => k_is)
    (case p28 => k_is)
    (case i28 => k_is)
    (case l28 => k_is)
    (case c28 => k_is)
    (case k28 => k_is)
    (case p29 => k_is)
    (case i29 => k_is)
    (case l29 => k_is)
    (case c29 => k_is)
    (case k29 => k_is)
    (case p30 => k_is)
    (case l30 => k_is)
    (case c30 => k_is)
    (case k30 => k_is)
    (case p31 => k_is)
    (case l31 => k_is)
    (case c31 => k_is)
    (case k31 => k_is)
    (case p32 => k_is)
    (case l32 => k_is)
    (case c32 => k_is)
    (case k32 => k_is)
    (case p33 => k_is)
    (case l33 => k_is)
    (case c33 => k_is)
    (case k33 => k_is)
    (case p34 => k_is)
    (case l34 => k_is)
    (case c34 => k_is)
    (case k34 => k_is)
    (case p35 => k_is)
    (case l35 => k_is)
    (case c35 => k_is)
    (case k35 => k_is)
    (case p36 => k_is)
    (case l36 => k_is)
    (case c36 => k_is)
    (case k36 => k_is)
    (case p37 => k_is)
    (case l37 => k_is)
    (case c37 => k_is)
    (case k37 => k_is)
    (case p38 => k_is)
    (case l38 => k_is)
    (case c38 => k_is)
    (case k38 => k_is)
    (case p39 => k_is)
    (case l39 => k_is)
    (case c39 => k_is)
    (case k39 => k_is)
    (case p40 => k_is)
    (case l40 => k_is)
    (case c40 => k_is)
    (case k40 => k_is)
    (case p41 => k_is)
    (case l41 => k_is)
    (case c41 => k_is)
    (case k41 => k_is)
    (case p42 => k_is)
    (case l42 => k_is)
    (case c42 => k_is)
    (case k42 => k_is)
    (case p43 => k_is)
    (case i43 => k_is)
    (case l43 => k_is)
    (case c43 => k_is)
    (case k43 => k_is)
    (case p44 => k_is)
    (case i44 => k_is)
    (case l44 => k_is)
    (case c44 => k_is)
    (case k44 => k_is)
    (case p45 => k_is)
    (case l45 => k_is)
    (case c45 => k_is)
    (case k45 => k_is)
    (case p46 => k_is)
    (case l46 => k_is)
    (case c46 => k_is)
    (case k46 => k_is)
    (case p47 => k_is)
    (case l47 => k_is)
    (case c47 => k_is)
    (case k47 => k_is)
    (case p48 => k_is)
    (case l48 => k_is)
    (case c48 => k_is)
    (case k48 => k_is)
    (case p49 => k_is)
    (case l49 => k_is)
    (case c49 => k_is)
    (case k49 => k_is)
    (case p50 => k_is)
    (case l50 => k_is)
    (case c50 => k_is)
    (case k50 => k_is)
    (case p51 => k_is)
    (case l51 => k_is)
    (case c51 => k_is)
    (case k51 => k_is)
    (case p52 => k_is)
    (case l52 => k_is)
    (case c52 => k_is)
    (case k52 => k_is)
    (case p53 => k_is)
    (case l53 => k_is)
    (case c53 => k_is)
    (case k53 => k_is)
    (case p54 => k_is)
    (case l54 => k_is)
    (case c54 => k_is)
    (case k54 => k_is)
    (case p55 => k_is)
    (case l55 => k_is)
    (case c55 => k_is)
    (case k55 => k_is)
    (case p56 => k_is)
    (case l56 => k_is)
    (case c56 => k_is)
    (case k56 => k_is)
    (case p57 => k_is)
    (case l57 => k_is)
    (case c57 => k_is)
    (case k57 => k_is)
    (case p58 => k_is)
    (case l58 => k_is)
    (case c58 => k_is)
    (case k58 => k_is)
    (case p59 => k_is)
    (case l59 => k_is)
    (case c59 => k_is)
    (case k59 => k_is)
    (case hcC => k_is)
    (case hpg => k_is)
    (case hhd => k_is)
    (case hpo => k_is)
    (case hsa => k_is)
    (case hnP => k_is)
    (case hnC => k_is)
    (case hpI => k_is)
    (case hiI => k_is)
    (case hlI => k_is)
    (case hdI => k_is)
    (case hkI => k_is)
    (case hmk => k_is)
    (case hkc => k_is)
    (case z_abs => k_is)
    (case z_all => k_is)
    (case z_bool => k_is)
    (case z_divmod => k_is)
    (case z_enumerate => k_is)
    (case z_int => k_is)
    (case z_isinstance => k_is)
    (case z_len => k_is)
    (case z_list => k_is)
    (case z_max => k_is)
    (case z_min => k_is)
    (case z_range => k_is)
    (case z_sorted => k_is)
    (case z_str => k_is)
    (case z_sum => k_is)
    (case z_tuple => k_is)
    (case q_ENTRY => k_is)
    (case q_LAST_DAY => k_is)
    (case q_MOST => k_is)
    (case ql_MOST => k_is)
    (case qk_MOST => k_keys)
    (case qe0_MOST => k_is)
    (case qe1_MOST => k_is)
    (case q_MOST_AMOUNTS => k_is)
    (case q_MOST_PART => k_is)
    (case q_STATEMENT => k_is)

