import PyProof.Rows.All
import Wide.All
import OpenK.AllK
import Wide.FinOn
import HandS.ForMost
import HandS.Exc
import HandS.TryOnly
import HandS.TryMany
import HandS.ExcOwn
import HandS.WordsExc
import HandS.Lambda
import HandS.TupAny
import HandS.Style
import HandS.Flow
import HandS.IsInst
import HandS.Conv
import HandS.Deep
import HandS.SortInts
import HandS.SortRule
import HandS.Walk
import HandS.Small
import KE.GoesMore
import KE.GoesEnum
import KE.KDictZip
import HandS.Zip
import KE.SortKeyHeap
import KE.KNestM
import PyProof.TupleOfSeq
import HandS.EndTab
import KE.KDictList
import HandS.DictComp
import KE.KIndexOf
import PySem.Challenge.RW_bymiddles_k72_whole_regret_by_own_stretc
import HandS.ExcIs
set_option Elab.async false
set_option linter.all false
set_option maxRecDepth 100000
set_option maxHeartbeats 1000000
set_option maxHeartbeats 2000000
set_option maxHeartbeats 4000000
/-! DL: a layer of data over HandS: values as trees, shared things by number; no heap in what is asked of a def. -/
namespace DL
open PySem L2

/-- a value: what never changes by its content, what may change by its number in the store -/
inductive D where
  | non | bl (b : Bool) | int (i : Int) | str (x : Str)
  | tup (xs : List D) | lst (xs : List D)
  | tpx (xs : List D)
  | ins (C : Addr) (fs : List (Str × D))
  | dct (kvs : List (D × D))
  | loc (k : Nat) | adr (a : Addr) | ty (n : String)

abbrev Av := Addr → Prop
def RdO (H : Hp) (O : Av) (a : Addr) (u : HO) : Prop := ¬ O a ∧ Rd H a u
def KLst (K : PySem.W.Frag) (a : Addr) (xs : List V) : Prop :=
  ∃ (o : Obj) (its : Array Value) (n : Nat), K.lookup a = some o ∧ o.cls = .type "list" ∧ o.dict = none ∧ o.data = .seq its n ∧ its.size ≤ sizeLine ∧ Vals xs its.toList
def KTup (K : PySem.W.Frag) (a : Addr) (xs : List V) : Prop :=
  ∃ (o : Obj) (its : Array Value) (n : Nat), K.lookup a = some o ∧ o.cls = .type "tuple" ∧ o.data = .seq its n ∧ its.size ≤ sizeLine ∧ Vals xs its.toList
def dKey : Key → D
  | .inl i => .int i
  | .inr x => .str x

mutual
/-- in the heap H the value v is d; what is read lies outside O; the store's things lie where mu says, n of them -/
inductive Rp (K : PySem.W.Frag) (H : Hp) (O : Av) (mu : Nat → Addr) (n : Nat) : V → D → Prop
  | non : Rp K H O mu n .non .non
  | bl (b : Bool) : Rp K H O mu n (.bl b) (.bl b)
  | int (i : Int) : Rp K H O mu n (.int i) (.int i)
  | str (x : Str) : Rp K H O mu n (.str x) (.str x)
  | tup {a : Addr} {vs : List V} {ds : List D} : (¬ O a ∧ H a = some (.tup vs)) ∨ KTup K a vs → ds.length ≤ sizeLine → Rps K H O mu n vs ds → Rp K H O mu n (.ref a) (.tup ds)
  | tpx {a : Addr} {o : Obj} {vs : List V} {ds : List D} : ¬ O a → H a = some (.frz o (.tup vs)) → o.dict = none → ds.length ≤ sizeLine → Rps K H O mu n vs ds → Rp K H O mu n (.ref a) (.tpx ds)
  | lst {a : Addr} {vs : List V} {ds : List D} : RdO H O a (.lst vs) ∨ KLst K a vs → ds.length ≤ sizeLine → Rps K H O mu n vs ds → Rp K H O mu n (.ref a) (.lst ds)
  | ins {a C dx : Addr} {fvs : List (Str × V)} {fs : List (Str × D)} : ¬ O a → H a = some (.ins C dx fvs) → RpF K H O mu n fvs fs → Rp K H O mu n (.ref a) (.ins C fs)
  | dK {a : Addr} {kvs : List (Key × V)} {ds : List (D × D)} : ¬ O a → H a = some (.dK kvs) → RpK K H O mu n kvs ds → Rp K H O mu n (.ref a) (.dct ds)
  | dT {a : Addr} {kvs : List (List Key × V)} {ds : List (D × D)} : ¬ O a → H a = some (.dT kvs) → RpT K H O mu n kvs ds → Rp K H O mu n (.ref a) (.dct ((.non, .non) :: ds))
  | loc {k : Nat} : k < n → Rp K H O mu n (.ref (mu k)) (.loc k)
  | adr (a : Addr) : Rp K H O mu n (.ref a) (.adr a)
  | ty (x : String) : Rp K H O mu n (.ty x) (.ty x)
inductive Rps (K : PySem.W.Frag) (H : Hp) (O : Av) (mu : Nat → Addr) (n : Nat) : List V → List D → Prop
  | nil : Rps K H O mu n [] []
  | cons {v : V} {d : D} {vs : List V} {ds : List D} : Rp K H O mu n v d → Rps K H O mu n vs ds → Rps K H O mu n (v :: vs) (d :: ds)
inductive RpF (K : PySem.W.Frag) (H : Hp) (O : Av) (mu : Nat → Addr) (n : Nat) : List (Str × V) → List (Str × D) → Prop
  | nil : RpF K H O mu n [] []
  | cons {f : Str} {v : V} {d : D} {vs : List (Str × V)} {ds : List (Str × D)} : Rp K H O mu n v d → RpF K H O mu n vs ds → RpF K H O mu n ((f, v) :: vs) ((f, d) :: ds)
inductive RpK (K : PySem.W.Frag) (H : Hp) (O : Av) (mu : Nat → Addr) (n : Nat) : List (Key × V) → List (D × D) → Prop
  | nil : RpK K H O mu n [] []
  | cons {k : Key} {v : V} {d : D} {vs : List (Key × V)} {ds : List (D × D)} : Rp K H O mu n v d → RpK K H O mu n vs ds → RpK K H O mu n ((k, v) :: vs) ((dKey k, d) :: ds)
inductive RpT (K : PySem.W.Frag) (H : Hp) (O : Av) (mu : Nat → Addr) (n : Nat) : List (List Key × V) → List (D × D) → Prop
  | nil : RpT K H O mu n [] []
  | cons {k : List Key} {v : V} {d : D} {vs : List (List Key × V)} {ds : List (D × D)} : Rp K H O mu n v d → RpT K H O mu n vs ds → RpT K H O mu n ((k, v) :: vs) ((.tup (k.map dKey), d) :: ds)
end

/-- what carries a reading from one heap to another -/
structure Carry (H : Hp) (O : Av) (mu : Nat → Addr) (n : Nat) (H' : Hp) (O' : Av) (mu' : Nat → Addr) (n' : Nat) : Prop where
  keep : ∀ a o, H a = some o → ¬ O a → (∀ ps, o ≠ .tbl ps) → H' a = some o
  out : ∀ a o, H a = some o → ¬ O a → ¬ O' a
  mu : ∀ k, k < n → mu' k = mu k
  le : n ≤ n'
section
variable {K : PySem.W.Frag} {H H' : Hp} {O O' : Av} {mu mu' : Nat → Addr} {n n' : Nat}
theorem RdO.carry {a : Addr} {u : HO} (c : Carry H O mu n H' O' mu' n') (hu : ∀ ps, u ≠ .tbl ps) (h : RdO H O a u) : RdO H' O' a u := by
  obtain ⟨h1, h2 | ⟨o, h2⟩⟩ := h
  · exact ⟨c.out _ _ h2 h1, .inl (c.keep _ _ h2 h1 hu)⟩
  · exact ⟨c.out _ _ h2 h1, .inr ⟨o, c.keep _ _ h2 h1 (fun ps z => by cases z)⟩⟩
mutual
theorem Rp.carry (c : Carry H O mu n H' O' mu' n') : ∀ {v : V} {d : D}, Rp K H O mu n v d → Rp K H' O' mu' n' v d
  | _, _, .non => .non
  | _, _, .bl b => .bl b
  | _, _, .int i => .int i
  | _, _, .str x => .str x
  | _, _, .tup h l r => .tup (h.imp (fun q => ⟨c.out _ _ q.2 q.1, c.keep _ _ q.2 q.1 (fun ps z => by cases z)⟩) id) l (Rps.carry c r)
  | _, _, .tpx h1 h2 hd l r => .tpx (c.out _ _ h2 h1) (c.keep _ _ h2 h1 (fun ps z => by cases z)) hd l (Rps.carry c r)
  | _, _, .lst h l r => .lst (h.imp (fun q => q.carry c (fun ps z => by cases z)) id) l (Rps.carry c r)
  | _, _, .ins h1 h2 r => .ins (c.out _ _ h2 h1) (c.keep _ _ h2 h1 (fun ps z => by cases z)) (RpF.carry c r)
  | _, _, .dK h1 h2 r => .dK (c.out _ _ h2 h1) (c.keep _ _ h2 h1 (fun ps z => by cases z)) (RpK.carry c r)
  | _, _, .dT h1 h2 r => .dT (c.out _ _ h2 h1) (c.keep _ _ h2 h1 (fun ps z => by cases z)) (RpT.carry c r)
  | _, _, .loc (k := k) h => by
    have e := c.mu k h
    rw [← e]
    exact .loc (Nat.lt_of_lt_of_le h c.le)
  | _, _, .adr a => .adr a
  | _, _, .ty a => .ty a
theorem Rps.carry (c : Carry H O mu n H' O' mu' n') : ∀ {v : List V} {d : List D}, Rps K H O mu n v d → Rps K H' O' mu' n' v d
  | _, _, .nil => .nil
  | _, _, .cons h r => .cons (Rp.carry c h) (Rps.carry c r)
theorem RpF.carry (c : Carry H O mu n H' O' mu' n') : ∀ {v : List (Str × V)} {d : List (Str × D)}, RpF K H O mu n v d → RpF K H' O' mu' n' v d
  | _, _, .nil => .nil
  | _, _, .cons h r => .cons (Rp.carry c h) (RpF.carry c r)
theorem RpK.carry (c : Carry H O mu n H' O' mu' n') : ∀ {v : List (Key × V)} {d : List (D × D)}, RpK K H O mu n v d → RpK K H' O' mu' n' v d
  | _, _, .nil => .nil
  | _, _, .cons h r => .cons (Rp.carry c h) (RpK.carry c r)
theorem RpT.carry (c : Carry H O mu n H' O' mu' n') : ∀ {v : List (List Key × V)} {d : List (D × D)}, RpT K H O mu n v d → RpT K H' O' mu' n' v d
  | _, _, .nil => .nil
  | _, _, .cons h r => .cons (Rp.carry c h) (RpT.carry c r)
end
end

/-- an object's content by data -/
def Con (K : PySem.W.Frag) (H : Hp) (O : Av) (mu : Nat → Addr) (n : Nat) (o : HO) : D → Prop
  | .lst ds => ∃ vs, o = .lst vs ∧ ds.length ≤ sizeLine ∧ Rps K H O mu n vs ds
  | .ins C fs => ∃ dx fvs, o = .ins C dx fvs ∧ RpF K H O mu n fvs fs
  | .dct ds => (∃ kvs, o = .dK kvs ∧ RpK K H O mu n kvs ds) ∨ (∃ kvs es, o = .dT kvs ∧ ds = (.non, .non) :: es ∧ RpT K H O mu n kvs es)
  | _ => False
theorem Con.mut {K : PySem.W.Frag} {H : Hp} {O : Av} {mu : Nat → Addr} {n : Nat} {o : HO} {d : D} (h : Con K H O mu n o d) : Mut (some o) := by
  cases d with
  | lst ds => obtain ⟨vs, e, _, _⟩ := h; rw [e]; trivial
  | ins C fs => obtain ⟨dx, fvs, e, _⟩ := h; rw [e]; trivial
  | dct ds =>
    rcases h with ⟨vs, e, _⟩ | ⟨vs, es, e, _⟩
    · rw [e]; trivial
    · rw [e]; trivial
  | non => exact h.elim
  | bl b => exact h.elim
  | int i => exact h.elim
  | str x => exact h.elim
  | tup ds => exact h.elim
  | tpx ds => exact h.elim
  | loc k => exact h.elim
  | adr k => exact h.elim
  | ty k => exact h.elim
theorem Con.notbl {K : PySem.W.Frag} {H : Hp} {O : Av} {mu : Nat → Addr} {n : Nat} {o : HO} {d : D} (h : Con K H O mu n o d) (ps : Array Value) : o ≠ .tbl ps := by
  intro e
  have m := h.mut
  rw [e] at m
  exact m
theorem Con.carry {K : PySem.W.Frag} {H H' : Hp} {O O' : Av} {mu mu' : Nat → Addr} {n n' : Nat} {o : HO} {d : D} (c : Carry H O mu n H' O' mu' n') (h : Con K H O mu n o d) : Con K H' O' mu' n' o d := by
  cases d with
  | lst ds => obtain ⟨vs, e, l, r⟩ := h; exact ⟨vs, e, l, r.carry c⟩
  | ins C fs => obtain ⟨dx, fvs, e, r⟩ := h; exact ⟨dx, fvs, e, r.carry c⟩
  | dct ds =>
    rcases h with ⟨vs, e, r⟩ | ⟨vs, es, e, e2, r⟩
    · exact .inl ⟨vs, e, r.carry c⟩
    · exact .inr ⟨vs, es, e, e2, r.carry c⟩
  | non => exact h.elim
  | bl b => exact h.elim
  | int i => exact h.elim
  | str x => exact h.elim
  | tup ds => exact h.elim
  | tpx ds => exact h.elim
  | loc k => exact h.elim
  | adr k => exact h.elim
  | ty k => exact h.elim
/-- a new thing, read inline -/
theorem Con.rp {K : PySem.W.Frag} {H H' : Hp} {O O' : Av} {mu mu' : Nat → Addr} {n n' : Nat} {o : HO} {d : D} {a : Addr} (c : Carry H O mu n H' O' mu' n') (ha : H' a = some o) (na : ¬ O' a) (h : Con K H O mu n o d) : Rp K H' O' mu' n' (.ref a) d := by
  cases d with
  | lst ds => obtain ⟨vs, e, l, r⟩ := h; exact .lst (.inl ⟨na, .inl (by rw [ha, e])⟩) l (r.carry c)
  | ins C fs => obtain ⟨dx, fvs, e, r⟩ := h; exact .ins na (by rw [ha, e]) (r.carry c)
  | dct ds =>
    rcases h with ⟨vs, e, r⟩ | ⟨vs, es, e, e2, r⟩
    · exact .dK na (by rw [ha, e]) (r.carry c)
    · subst e2; exact .dT na (by rw [ha, e]) (r.carry c)
  | non => exact h.elim
  | bl b => exact h.elim
  | int i => exact h.elim
  | str x => exact h.elim
  | tup ds => exact h.elim
  | tpx ds => exact h.elim
  | loc k => exact h.elim
  | adr k => exact h.elim
  | ty k => exact h.elim
/-- what stands at the store's place a -/
def At (K : PySem.W.Frag) (H : Hp) (O : Av) (mu : Nat → Addr) (n : Nat) (a : Addr) (d : D) : Prop := ∃ o, H a = some o ∧ Con K H O mu n o d
theorem At.there {K : PySem.W.Frag} {H : Hp} {O : Av} {mu : Nat → Addr} {n : Nat} {a : Addr} {d : D} (h : At K H O mu n a d) : H a ≠ none := by
  obtain ⟨o, e, _⟩ := h
  rw [e]
  simp
/-- .. carried: its own object stays -/
theorem At.carry {K : PySem.W.Frag} {H H' : Hp} {O O' : Av} {mu mu' : Nat → Addr} {n n' : Nat} {a : Addr} {d : D} (c : Carry H O mu n H' O' mu' n') (hs : H' a = H a) (h : At K H O mu n a d) : At K H' O' mu' n' a d := by
  obtain ⟨o, e, r⟩ := h
  exact ⟨o, hs.trans e, r.carry c⟩

/-! ### the state -/
structure Sto where
  H : Hp
  mu : Nat → Addr
  M : List D
/-- the places of the store -/
def Sto.own (S : Sto) : Av := fun a => ∃ k, k < S.M.length ∧ S.mu k = a
def Sto.O (S : Sto) (O0 : Av) : Av := fun a => O0 a ∨ S.own a
abbrev R (K : PySem.W.Frag) (O0 : Av) (S : Sto) (v : V) (d : D) : Prop := Rp K S.H (S.O O0) S.mu S.M.length v d
abbrev Rs (K : PySem.W.Frag) (O0 : Av) (S : Sto) (v : List V) (d : List D) : Prop := Rps K S.H (S.O O0) S.mu S.M.length v d
abbrev TabT := List (Addr × Str)
structure SOk (K : PySem.W.Frag) (O0 : Av) (T : TabT) (S : Sto) : Prop where
  obj : ∀ k d, S.M[k]? = some d → At K S.H (S.O O0) S.mu S.M.length (S.mu k) d
  inj : ∀ i j, i < S.M.length → j < S.M.length → S.mu i = S.mu j → i = j
  out : ∀ k, k < S.M.length → ¬ O0 (S.mu k)
  dom : ∀ a, O0 a → S.H a ≠ none
  tab : LamX.Tabs T S.H
/-- from one state to a later one -/
structure Step (S S' : Sto) : Prop where
  keep : ∀ a o, S.H a = some o → ¬ S.own a → (∀ ps, o ≠ .tbl ps) → S'.H a = some o
  dom : ∀ a, S.H a ≠ none → S'.H a ≠ none
  mu : ∀ k, k < S.M.length → S'.mu k = S.mu k
  le : S.M.length ≤ S'.M.length
  new : ∀ k, S.M.length ≤ k → k < S'.M.length → S.H (S'.mu k) = none
theorem Step.refl (S : Sto) : Step S S := ⟨fun _ _ h _ _ => h, fun _ h => h, fun _ _ => rfl, Nat.le_refl _, fun k h1 h2 => absurd h2 (Nat.not_lt.mpr h1)⟩
theorem Step.own_of {S S' : Sto} (s : Step S S') {a : Addr} (h : S.H a ≠ none) (o : S'.own a) : S.own a := by
  obtain ⟨k, hk, e⟩ := o
  by_cases hl : k < S.M.length
  · exact ⟨k, hl, by rw [← s.mu k hl]; exact e⟩
  · have := s.new k (Nat.not_lt.mp hl) hk
    rw [e] at this
    exact absurd this h
theorem Step.to_own {S S' : Sto} (s : Step S S') {a : Addr} (o : S.own a) : S'.own a := by
  obtain ⟨k, hk, e⟩ := o
  exact ⟨k, Nat.lt_of_lt_of_le hk s.le, by rw [s.mu k hk]; exact e⟩
theorem Step.trans {S S1 S2 : Sto} (a : Step S S1) (b : Step S1 S2) : Step S S2 where
  keep := fun x o h n t => b.keep x o (a.keep x o h n t) (fun q => n (a.own_of (by rw [h]; simp) q)) t
  dom := fun x h => b.dom x (a.dom x h)
  mu := fun k h => (b.mu k (Nat.lt_of_lt_of_le h a.le)).trans (a.mu k h)
  le := Nat.le_trans a.le b.le
  new := fun k h1 h2 => by
    by_cases hl : k < S1.M.length
    · rw [b.mu k hl]
      exact a.new k h1 hl
    · have q := b.new k (Nat.not_lt.mp hl) h2
      cases e : S.H (S2.mu k) with
      | none => rfl
      | some o => exact absurd q (a.dom _ (by rw [e]; simp))
theorem Step.carry {S S' : Sto} (s : Step S S') (O0 : Av) : Carry S.H (S.O O0) S.mu S.M.length S'.H (S'.O O0) S'.mu S'.M.length where
  keep := fun a o h n t => s.keep a o h (fun q => n (.inr q)) t
  out := fun a o h n q => by
    rcases q with q | q
    · exact n (.inl q)
    · exact n (.inr (s.own_of (by rw [h]; simp) q))
  mu := s.mu
  le := s.le
theorem Step.rp {K : PySem.W.Frag} {O0 : Av} {S S' : Sto} (s : Step S S') {v : V} {d : D} (h : R K O0 S v d) : R K O0 S' v d := h.carry (s.carry O0)
theorem Step.rps {K : PySem.W.Frag} {O0 : Av} {S S' : Sto} (s : Step S S') {v : List V} {d : List D} (h : Rs K O0 S v d) : Rs K O0 S' v d := h.carry (s.carry O0)

abbrev Rho := List (Option D)
structure Ctx where
  O0 : Av
  S0 : Sto
structure Slots (K : PySem.W.Frag) (O0 : Av) (S : Sto) (rho : Rho) (σ : St) : Prop where
  len : rho.length = σ.length
  get : ∀ (i : Nat) (d : D), rho[i]? = some (some d) → ∃ v, σ[i]? = some (some v) ∧ R K O0 S v d
structure Rel (K : PySem.W.Frag) (T : TabT) (G : Ctx) (S : Sto) (rho : Rho) (σ : St) : Prop where
  ok : SOk K G.O0 T S
  step : Step G.S0 S
  slots : Slots K G.O0 S rho σ
theorem Slots.step {K : PySem.W.Frag} {O0 : Av} {S S' : Sto} {rho : Rho} {σ : St} (h : Slots K O0 S rho σ) (s : Step S S') : Slots K O0 S' rho σ :=
  ⟨h.len, fun i d e => let ⟨v, e1, r⟩ := h.get i d e; ⟨v, e1, s.rp r⟩⟩
theorem Rel.step' {K : PySem.W.Frag} {T : TabT} {G : Ctx} {S S' : Sto} {rho : Rho} {σ : St} (h : Rel K T G S rho σ) (s : Step S S') (ok : SOk K G.O0 T S') : Rel K T G S' rho σ := ⟨ok, h.step.trans s, h.slots.step s⟩

/-- an error: its class, its own fields -/
abbrev Exn := Addr × Option (List (Str × D))
abbrev XC := Exn → Rho → List D → Prop
def XRep (K : PySem.W.Frag) (O0 : Av) (S : Sto) (x : Exn) (cls : Value) (dx : Option Addr) : Prop :=
  cls = .ref x.1 ∧ match x.2 with
    | none => dx = none
    | some fs => ∃ a fvs, dx = some a ∧ S.H a = some (.xd fvs) ∧ RpF K S.H (S.O O0) S.mu S.M.length fvs fs
def GE (K : PySem.W.Frag) (T : TabT) (G : Ctx) (W : WX) (xc : XC) : Prop := ∀ x S rho σ cls dx, xc x rho S.M → Rel K T G S rho σ → XRep K G.O0 S x cls dx → W cls dx σ S.H
abbrev W0 : WX := fun _ _ _ _ => False
abbrev xc0 : XC := fun _ _ _ => False
theorem GE.none {K : PySem.W.Frag} {T : TabT} {G : Ctx} {W : WX} : GE K T G W xc0 := fun _ _ _ _ _ _ h _ _ => h.elim

abbrev TDe := XC → Rho → List D → (D → List D → Prop) → Prop
abbrev TDt := XC → Rho → List D → (Bool → List D → Prop) → Prop
abbrev TDa := XC → Rho → List D → (List D → List D → Prop) → Prop
structure Fin where
  nx : Rho → List D → Prop
  rt : D → List D → Prop
  bk : Rho → List D → Prop := fun _ _ => False
  ct : Rho → List D → Prop := fun _ _ => False
abbrev TDs := XC → Fin → Rho → List D → Prop

/-- an expression's reading by data -/
def tD (K : PySem.W.Frag) (T : TabT) (W : WX) (w : TDe) : TE := fun σ H Q => ∃ G S rho xc Phi, S.H = H ∧ Rel K T G S rho σ ∧ GE K T G W xc ∧ w xc rho S.M Phi ∧
  ∀ d S' v, Phi d S'.M → Step S S' → Rel K T G S' rho σ → R K G.O0 S' v d → Q v S'.H
/-- .. whose value is a new object of the content d -/
def tN (K : PySem.W.Frag) (T : TabT) (W : WX) (w : TDe) : TE := fun σ H Q => ∃ G S rho xc Phi, S.H = H ∧ Rel K T G S rho σ ∧ GE K T G W xc ∧ w xc rho S.M Phi ∧
  ∀ d S' a o, Phi d S'.M → Step S S' → Rel K T G S' rho σ → S'.H a = none → Con K S'.H (S'.O G.O0) S'.mu S'.M.length o d → Q (.ref a) (upd S'.H a o)
def tT (K : PySem.W.Frag) (T : TabT) (W : WX) (w : TDt) : TT := fun σ H Q => ∃ G S rho xc Phi, S.H = H ∧ Rel K T G S rho σ ∧ GE K T G W xc ∧ w xc rho S.M Phi ∧
  ∀ b S', Phi b S'.M → Step S S' → Rel K T G S' rho σ → Q b S'.H
def tA (K : PySem.W.Frag) (T : TabT) (W : WX) (w : TDa) : TA := fun σ H Q => ∃ G S rho xc Phi, S.H = H ∧ Rel K T G S rho σ ∧ GE K T G W xc ∧ w xc rho S.M Phi ∧
  ∀ ds S' vs, Phi ds S'.M → Step S S' → Rel K T G S' rho σ → Rs K G.O0 S' vs ds → Q vs S'.H
structure EndsOk (K : PySem.W.Frag) (T : TabT) (G : Ctx) (F : Fin) (Dn : Ends) : Prop where
  nx : ∀ S rho σ, F.nx rho S.M → Rel K T G S rho σ → Dn.nx σ S.H
  rt : ∀ S d v, F.rt d S.M → SOk K G.O0 T S → Step G.S0 S → R K G.O0 S v d → Dn.rt v S.H
  bk : ∀ S rho σ, F.bk rho S.M → Rel K T G S rho σ → Dn.bk σ S.H
  ct : ∀ S rho σ, F.ct rho S.M → Rel K T G S rho σ → Dn.ct σ S.H
def tS (K : PySem.W.Frag) (T : TabT) (W : WX) (w : TDs) : TS := fun Dn σ H => ∃ G S rho xc F, S.H = H ∧ Rel K T G S rho σ ∧ GE K T G W xc ∧ w xc F rho S.M ∧ EndsOk K T G F Dn

structure ED (X : Cx) (T : TabT) (W : WX) (e : Expr) (w : TDe) : Prop where
  run : PE X e (tD X.K T W w)
structure EN (X : Cx) (T : TabT) (W : WX) (e : Expr) (w : TDe) : Prop where
  run : PE X e (tN X.K T W w)
structure ET (X : Cx) (T : TabT) (W : WX) (e : Expr) (w : TDt) : Prop where
  run : PT X e (tT X.K T W w)
structure EW (X : Cx) (T : TabT) (W : WX) (e : Expr) (w : TDt) : Prop where
  run : PW X e (tT X.K T W w)
structure EA (X : Cx) (T : TabT) (W : WX) (es : List Expr) (w : TDa) : Prop where
  run : PA X es (tA X.K T W w)
structure SD (X : Cx) (T : TabT) (W : WX) (st : Stmt) (w : TDs) : Prop where
  run : PS X st (tS X.K T W w)
structure SDs (X : Cx) (T : TabT) (W : WX) (st : List Stmt) (w : TDs) : Prop where
  run : PSs X st (tS X.K T W w)
theorem pe_of {X : Cx} {e : Expr} {t t' : TE} (h : PE X e t) (i : ∀ σ H Q, t' σ H Q → t σ H Q) : PE X e t' := ⟨fun pins s σ H Q I q => h.run pins s σ H Q I (i σ H Q q)⟩
theorem pt_of {X : Cx} {e : Expr} {t t' : TT} (h : PT X e t) (i : ∀ σ H Q, t' σ H Q → t σ H Q) : PT X e t' := ⟨fun pins s σ H Q I q => h.run pins s σ H Q I (i σ H Q q)⟩
theorem pw_of {X : Cx} {e : Expr} {t t' : TT} (h : PW X e t) (i : ∀ σ H Q, t' σ H Q → t σ H Q) : PW X e t' := ⟨fun wh pins s σ H Q I q => h.run wh pins s σ H Q I (i σ H Q q)⟩
theorem pa_of {X : Cx} {e : List Expr} {t t' : TA} (h : PA X e t) (i : ∀ σ H Q, t' σ H Q → t σ H Q) : PA X e t' := ⟨fun pos pins s σ H Q I q => h.run pos pins s σ H Q I (i σ H Q q)⟩
theorem ps_of {X : Cx} {e : Stmt} {t t' : TS} (h : PS X e t) (i : ∀ Dn σ H, t' Dn σ H → t Dn σ H) : PS X e t' := ⟨fun pins s σ H Dn I q => h.run pins s σ H Dn I (i Dn σ H q)⟩
theorem pss_of {X : Cx} {e : List Stmt} {t t' : TS} (h : PSs X e t) (i : ∀ Dn σ H, t' Dn σ H → t Dn σ H) : PSs X e t' := ⟨fun pins s σ H Dn I q => h.run pins s σ H Dn I (i Dn σ H q)⟩
end DL

namespace DL
open PySem L2

/-! ### the state changes -/
def Sto.lay (S : Sto) (a : Addr) (o : HO) : Sto := { S with H := upd S.H a o }
def Sto.add (S : Sto) (a : Addr) (o : HO) (d : D) : Sto := ⟨upd S.H a o, fun k => if k = S.M.length then a else S.mu k, S.M ++ [d]⟩
def Sto.put (S : Sto) (k : Nat) (o : HO) (d : D) : Sto := ⟨upd S.H (S.mu k) o, S.mu, S.M.set k d⟩
section
variable {K : PySem.W.Frag} {O0 : Av} {T : TabT} {S : Sto} {a : Addr} {o : HO} {d : D}
theorem ne_free {H : Hp} {a b : Addr} (h : H a = none) (q : H b ≠ none) : b ≠ a := fun e => q (e ▸ h)
theorem Sto.own_lay {b : Addr} : (S.lay a o).own b ↔ S.own b := Iff.rfl
theorem Step.lay (h : S.H a = none) : Step S (S.lay a o) where
  keep := fun b u e _ _ => by
    show upd S.H a o b = some u
    rw [upd_ne (ne_of_none e h)]
    exact e
  dom := fun b e => by
    show upd S.H a o b ≠ none
    rw [upd_ne (ne_free h e)]
    exact e
  mu := fun _ _ => rfl
  le := Nat.le_refl _
  new := fun k h1 h2 => absurd h2 (Nat.not_lt.mpr h1)
theorem SOk.there (ok : SOk K O0 T S) {k : Nat} (hk : k < S.M.length) : S.H (S.mu k) ≠ none :=
  (ok.obj k S.M[k] (List.getElem?_eq_getElem hk)).there
theorem SOk.lay (ok : SOk K O0 T S) (h : S.H a = none) : SOk K O0 T (S.lay a o) where
  obj := fun k d e => (ok.obj k d e).carry ((Step.lay (o := o) h).carry O0) (upd_ne (ne_free h (ok.obj k d e).there))
  inj := ok.inj
  out := ok.out
  dom := fun b e => (Step.lay (o := o) h).dom b (ok.dom b e)
  tab := LamX.Tabs.ext ok.tab fun b u e => by
    show upd S.H a o b = some u
    rw [upd_ne (ne_of_none e h)]
    exact e
theorem notO_of_free (ok : SOk K O0 T S) (h : S.H a = none) : ¬ S.O O0 a := by
  rintro (q | ⟨k, hk, e⟩)
  · exact ok.dom a q h
  · exact ok.there hk (e ▸ h)
theorem Step.add (h : S.H a = none) : Step S (S.add a o d) where
  keep := fun b u e _ _ => by
    show upd S.H a o b = some u
    rw [upd_ne (ne_of_none e h)]
    exact e
  dom := fun b e => by
    show upd S.H a o b ≠ none
    rw [upd_ne (ne_free h e)]
    exact e
  mu := fun k hk => if_neg (Nat.ne_of_lt hk)
  le := by show S.M.length ≤ (S.M ++ [d]).length; rw [List.length_append]; exact Nat.le_add_right _ _
  new := fun k h1 h2 => by
    have e : k = S.M.length := by
      have h2' : k < (S.M ++ [d]).length := h2
      rw [List.length_append, List.length_singleton] at h2'
      omega
    show S.H (if k = S.M.length then a else S.mu k) = none
    rw [if_pos e]
    exact h
theorem SOk.add (ok : SOk K O0 T S) (h : S.H a = none) (c : Con K S.H (S.O O0) S.mu S.M.length o d) : SOk K O0 T (S.add a o d) where
  obj := fun k u e => by
    have cy := (Step.add (o := o) (d := d) h).carry O0
    by_cases hk : k < S.M.length
    · have e' : S.M[k]? = some u := by
        have e2 : (S.M ++ [d])[k]? = some u := e
        rw [List.getElem?_append_left hk] at e2
        exact e2
      have q := ok.obj k u e'
      have em : (S.add a o d).mu k = S.mu k := if_neg (Nat.ne_of_lt hk)
      rw [em]
      exact q.carry cy (upd_ne (ne_free h q.there))
    · have hl : k = S.M.length := by
        have h2 := (List.getElem?_eq_some_iff.mp e).1
        have h3 : k < (S.M ++ [d]).length := h2
        rw [List.length_append, List.length_singleton] at h3
        omega
      subst hl
      have e2 : (S.M ++ [d])[S.M.length]? = some u := e
      rw [List.getElem?_append_right (Nat.le_refl _), Nat.sub_self] at e2
      have e3 : d = u := Option.some.inj e2
      have em : (S.add a o d).mu S.M.length = a := if_pos rfl
      rw [em]
      refine ⟨o, upd_same, ?_⟩
      rw [← e3]
      exact c.carry cy
  inj := fun i j hi hj e => by
    have hi' : i < S.M.length + 1 := by have q : i < (S.M ++ [d]).length := hi; rwa [List.length_append] at q
    have hj' : j < S.M.length + 1 := by have q : j < (S.M ++ [d]).length := hj; rwa [List.length_append] at q
    have e' : (if i = S.M.length then a else S.mu i) = (if j = S.M.length then a else S.mu j) := e
    by_cases h1 : i = S.M.length
    · by_cases h2 : j = S.M.length
      · rw [h1, h2]
      · rw [if_pos h1, if_neg h2] at e'
        exact absurd (e' ▸ h) (ok.there (by omega))
    · by_cases h2 : j = S.M.length
      · rw [if_neg h1, if_pos h2] at e'
        exact absurd (e' ▸ h) (ok.there (k := i) (by omega))
      · rw [if_neg h1, if_neg h2] at e'
        exact ok.inj i j (by omega) (by omega) e'
  out := fun k hk => by
    have hk' : k < S.M.length + 1 := by have q : k < (S.M ++ [d]).length := hk; rwa [List.length_append] at q
    show ¬ O0 (if k = S.M.length then a else S.mu k)
    by_cases h1 : k = S.M.length
    · rw [if_pos h1]
      exact fun q => ok.dom a q h
    · rw [if_neg h1]
      exact ok.out k (by omega)
  dom := fun b e => (Step.add (o := o) (d := d) h).dom b (ok.dom b e)
  tab := LamX.Tabs.ext ok.tab fun b u e => by
    show upd S.H a o b = some u
    rw [upd_ne (ne_of_none e h)]
    exact e
theorem SOk.notbl (ok : SOk K O0 T S) {k : Nat} (hk : k < S.M.length) (ps : Array Value) : S.H (S.mu k) ≠ some (.tbl ps) := by
  obtain ⟨o, e, c⟩ := ok.obj k S.M[k] (List.getElem?_eq_getElem hk)
  rw [e]
  exact fun z => c.notbl ps (Option.some.inj z)
theorem Step.put {k : Nat} (hk : k < S.M.length) : Step S (S.put k o d) where
  keep := fun b u e n _ => by
    show upd S.H (S.mu k) o b = some u
    rw [upd_ne (fun z => n ⟨k, hk, z.symm⟩)]
    exact e
  dom := fun b e => by
    show upd S.H (S.mu k) o b ≠ none
    by_cases z : b = S.mu k
    · rw [z, upd_same]; simp
    · rw [upd_ne z]; exact e
  mu := fun _ _ => rfl
  le := by show S.M.length ≤ (S.M.set k d).length; rw [List.length_set]; exact Nat.le_refl _
  new := fun j h1 h2 => by
    have h2' : j < (S.M.set k d).length := h2
    rw [List.length_set] at h2'
    exact absurd h2' (Nat.not_lt.mpr h1)
theorem SOk.put (ok : SOk K O0 T S) {k : Nat} (hk : k < S.M.length) (c : Con K S.H (S.O O0) S.mu S.M.length o d) : SOk K O0 T (S.put k o d) where
  obj := fun j u e => by
    have cy := (Step.put (o := o) (d := d) hk).carry O0
    have e' : (S.M.set k d)[j]? = some u := e
    by_cases hj : k = j
    · subst hj
      rw [List.getElem?_set_self hk] at e'
      refine ⟨o, upd_same, ?_⟩
      rw [← Option.some.inj e']
      exact c.carry cy
    · rw [List.getElem?_set_ne hj] at e'
      have hjl := (List.getElem?_eq_some_iff.mp e').1
      exact (ok.obj j u e').carry cy (upd_ne fun z => hj (ok.inj k j hk hjl z.symm))
  inj := fun i j hi hj e => ok.inj i j (by have q : i < (S.M.set k d).length := hi; rwa [List.length_set] at q) (by have q : j < (S.M.set k d).length := hj; rwa [List.length_set] at q) e
  out := fun j hj => ok.out j (by have q : j < (S.M.set k d).length := hj; rwa [List.length_set] at q)
  dom := fun b e => (Step.put (o := o) (d := d) hk).dom b (ok.dom b e)
  tab := fun p hp => by
    obtain ⟨ps, h1, h2, h3⟩ := ok.tab p hp
    refine ⟨ps, ?_, h2, fun pos cv hc => ?_⟩
    · show upd S.H (S.mu k) o p.1 = _
      rw [upd_ne (fun z => ok.notbl hk ps (by rw [← z]; exact h1))]
      exact h1
    · obtain ⟨c', e1, e2⟩ := h3 pos cv hc
      refine ⟨c', e1, ?_⟩
      show upd S.H (S.mu k) o c' = _
      rw [upd_ne fun z => ?_]
      · exact e2
      · obtain ⟨o', e', cc⟩ := ok.obj k S.M[k] (List.getElem?_eq_getElem hk)
        rw [← z, e2] at e'
        have : o' = LamX.CodeO c' p.2 := (Option.some.inj e').symm
        rw [this] at cc
        unfold LamX.CodeO at cc
        cases hd : S.M[k] <;> rw [hd] at cc <;> first
          | exact cc.elim
          | (obtain ⟨_, z, _⟩ := cc; cases z; done)
          | (obtain ⟨_, _, z, _⟩ := cc; cases z; done)
          | (rcases cc with ⟨_, z, _⟩ | ⟨_, _, z, _⟩ <;> cases z)
end

/-! ### reading values -/
def lstOf (M : List D) : D → Option (List D)
  | .lst ds => some ds
  | .loc k => match M[k]? with
    | some (.lst ds) => some ds
    | _ => none
  | _ => none
def tupOf : D → Option (List D)
  | .tup ds => some ds
  | .tpx ds => some ds
  | _ => none
/-- .. that may be handed on -/
def tupO : D → Option (List D)
  | .tup ds => some ds
  | _ => none
def dctOf (M : List D) : D → Option (List (D × D))
  | .dct ds => some ds
  | .loc k => match M[k]? with
    | some (.dct ds) => some ds
    | _ => none
  | _ => none
def insOf (M : List D) : D → Option (Addr × List (Str × D))
  | .ins C fs => some (C, fs)
  | .loc k => match M[k]? with
    | some (.ins C fs) => some (C, fs)
    | _ => none
  | _ => none
section
variable {K : PySem.W.Frag} {O0 : Av} {T : TabT} {S : Sto} {x y v : V} {a b d : D}
theorem SqL.ofO {O : Av} {H : Hp} {p : Addr} {vs : List V} (h : RdO H O p (.lst vs) ∨ KLst K p vs) : SqL K H p vs := h.imp (fun q => q.2) id
theorem SqT.ofO {O : Av} {H : Hp} {p : Addr} {vs : List V} (h : (¬ O p ∧ H p = some (.tup vs)) ∨ KTup K p vs) : SqT K H p vs := h.imp (fun q => .inl q.2) id
theorem rp_non {H : Hp} {O : Av} {mu : Nat → Addr} {n : Nat} (r : Rp K H O mu n x .non) : x = .non := by cases r; rfl
theorem rp_bl {H : Hp} {O : Av} {mu : Nat → Addr} {n : Nat} {c : Bool} (r : Rp K H O mu n x (.bl c)) : x = .bl c := by cases r; rfl
theorem rp_int {H : Hp} {O : Av} {mu : Nat → Addr} {n : Nat} {i : Int} (r : Rp K H O mu n x (.int i)) : x = .int i := by cases r; rfl
theorem rp_str {H : Hp} {O : Av} {mu : Nat → Addr} {n : Nat} {i : Str} (r : Rp K H O mu n x (.str i)) : x = .str i := by cases r; rfl
theorem rp_tup {H : Hp} {O : Av} {mu : Nat → Addr} {n : Nat} {ds : List D} (r : Rp K H O mu n x (.tup ds)) : ∃ p vs, x = .ref p ∧ SqT K H p vs ∧ Rps K H O mu n vs ds ∧ ds.length ≤ sizeLine := by
  cases r with
  | tup h l r => exact ⟨_, _, rfl, SqT.ofO h, r, l⟩
theorem rp_tpx {H : Hp} {O : Av} {mu : Nat → Addr} {n : Nat} {ds : List D} (r : Rp K H O mu n x (.tpx ds)) : ∃ p vs o, x = .ref p ∧ ¬ O p ∧ H p = some (.frz o (.tup vs)) ∧ o.dict = none ∧ Rps K H O mu n vs ds ∧ ds.length ≤ sizeLine := by
  cases r with
  | tpx h1 h2 hd l r => exact ⟨_, _, _, rfl, h1, h2, hd, r, l⟩
theorem r_tup {ds : List D} (r : R K O0 S x a) (h : tupOf a = some ds) : ∃ p vs, x = .ref p ∧ SqT K S.H p vs ∧ Rs K O0 S vs ds ∧ ds.length ≤ sizeLine := by
  cases a with
  | tup es =>
    have e : es = ds := Option.some.inj h
    subst e
    exact rp_tup r
  | tpx es =>
    have e : es = ds := Option.some.inj h
    subst e
    obtain ⟨p, vs, o, e1, h1, h2, hd, r, l⟩ := rp_tpx r
    exact ⟨p, vs, e1, .inl (.inr ⟨_, h2⟩), r, l⟩
  | _ => cases h
theorem r_tupO {ds : List D} (r : R K O0 S x a) (h : tupO a = some ds) : ∃ p vs, x = .ref p ∧ SqT K S.H p vs ∧ Rs K O0 S vs ds ∧ ds.length ≤ sizeLine := by
  cases a with
  | tup es =>
    have e : es = ds := Option.some.inj h
    subst e
    exact rp_tup r
  | _ => cases h
theorem r_lst {ds : List D} (ok : SOk K O0 T S) (r : R K O0 S x a) (h : lstOf S.M a = some ds) : ∃ p vs, x = .ref p ∧ SqL K S.H p vs ∧ Rs K O0 S vs ds ∧ ds.length ≤ sizeLine := by
  cases a with
  | lst es =>
    have e : es = ds := Option.some.inj h
    subst e
    cases r with
    | lst h l r => exact ⟨_, _, rfl, SqL.ofO h, r, l⟩
  | loc k =>
    cases r with
    | loc hk =>
      unfold lstOf at h
      simp only at h
      cases e : S.M[k]? with
      | none => rw [e] at h; cases h
      | some u =>
        rw [e] at h
        cases u with
        | lst es =>
          have e3 : es = ds := Option.some.inj h
          subst e3
          obtain ⟨o, e1, vs, e2, l, r⟩ := ok.obj k _ e
          subst e2
          exact ⟨_, vs, rfl, .inl (.inl e1), r, l⟩
        | _ => cases h
  | _ => cases h
theorem r_ins {C : Addr} {fs : List (Str × D)} (ok : SOk K O0 T S) (r : R K O0 S x a) (h : insOf S.M a = some (C, fs)) : ∃ p dx fvs, x = .ref p ∧ S.H p = some (.ins C dx fvs) ∧ RpF K S.H (S.O O0) S.mu S.M.length fvs fs := by
  cases a with
  | ins C' es =>
    have e := Option.some.inj h
    injection e with e1 e2
    subst e1 e2
    cases r with
    | ins h1 h2 r => exact ⟨_, _, _, rfl, h2, r⟩
  | loc k =>
    cases r with
    | loc hk =>
      unfold insOf at h
      simp only at h
      cases e : S.M[k]? with
      | none => rw [e] at h; cases h
      | some u =>
        rw [e] at h
        cases u with
        | ins C' es =>
          have e3 := Option.some.inj h
          injection e3 with e4 e5
          subst e4 e5
          obtain ⟨o, e1, dx, fvs, e2, r⟩ := ok.obj k _ e
          subst e2
          exact ⟨_, dx, fvs, rfl, e1, r⟩
        | _ => cases h
  | _ => cases h
theorem Rps.len {H : Hp} {O : Av} {mu : Nat → Addr} {n : Nat} : ∀ {vs : List V} {ds : List D}, Rps K H O mu n vs ds → vs.length = ds.length
  | _, _, .nil => rfl
  | _, _, .cons _ r => congrArg (· + 1) (Rps.len r)
theorem Rps.get {H : Hp} {O : Av} {mu : Nat → Addr} {n : Nat} : ∀ {vs : List V} {ds : List D} {i : Nat} {d : D}, Rps K H O mu n vs ds → ds[i]? = some d → ∃ v, vs[i]? = some v ∧ Rp K H O mu n v d
  | _, _, _, _, .nil, h => by cases h
  | _, _, 0, d, .cons h r, e => by
    have e' := Option.some.inj e
    subst e'
    exact ⟨_, rfl, h⟩
  | _, _, i + 1, d, .cons h r, e => by
    obtain ⟨v, e1, r1⟩ := Rps.get (i := i) (d := d) r (by simpa using e)
    exact ⟨v, by simpa using e1, r1⟩
theorem Rps.append {H : Hp} {O : Av} {mu : Nat → Addr} {n : Nat} {ws : List V} {es : List D} : ∀ {vs : List V} {ds : List D}, Rps K H O mu n vs ds → Rps K H O mu n ws es → Rps K H O mu n (vs ++ ws) (ds ++ es)
  | _, _, .nil, s => s
  | _, _, .cons h r, s => .cons h (Rps.append r s)
theorem Rps.take {H : Hp} {O : Av} {mu : Nat → Addr} {n : Nat} : ∀ {vs : List V} {ds : List D} (k : Nat), Rps K H O mu n vs ds → Rps K H O mu n (vs.take k) (ds.take k)
  | _, _, 0, _ => .nil
  | _, _, _ + 1, .nil => .nil
  | _, _, k + 1, .cons h r => .cons h (Rps.take k r)
theorem Rps.drop {H : Hp} {O : Av} {mu : Nat → Addr} {n : Nat} : ∀ {vs : List V} {ds : List D} (k : Nat), Rps K H O mu n vs ds → Rps K H O mu n (vs.drop k) (ds.drop k)
  | _, _, 0, r => r
  | _, _, _ + 1, .nil => .nil
  | _, _, k + 1, .cons _ r => Rps.drop k r
theorem Rps.set {H : Hp} {O : Av} {mu : Nat → Addr} {n : Nat} {v : V} {d : D} (h : Rp K H O mu n v d) : ∀ {vs : List V} {ds : List D} (k : Nat), Rps K H O mu n vs ds → Rps K H O mu n (vs.set k v) (ds.set k d)
  | _, _, _, .nil => .nil
  | _, _, 0, .cons _ r => .cons h r
  | _, _, k + 1, .cons q r => .cons q (Rps.set h k r)
theorem Rps.eraseIdx {H : Hp} {O : Av} {mu : Nat → Addr} {n : Nat} : ∀ {vs : List V} {ds : List D} (k : Nat), Rps K H O mu n vs ds → Rps K H O mu n (vs.eraseIdx k) (ds.eraseIdx k)
  | _, _, _, .nil => .nil
  | _, _, 0, .cons _ r => r
  | _, _, k + 1, .cons q r => .cons q (Rps.eraseIdx k r)
theorem Rps.reverse {H : Hp} {O : Av} {mu : Nat → Addr} {n : Nat} : ∀ {vs : List V} {ds : List D}, Rps K H O mu n vs ds → Rps K H O mu n vs.reverse ds.reverse
  | _, _, .nil => .nil
  | _, _, .cons h r => by
    rw [List.reverse_cons, List.reverse_cons]
    exact (Rps.reverse r).append (.cons h .nil)
theorem Rps.ixI {H : Hp} {O : Av} {mu : Nat → Addr} {n : Nat} {vs : List V} {ds : List D} {i : Int} {d : D} (r : Rps K H O mu n vs ds) (h : atI ds i = some d) : ∃ v, atI vs i = some v ∧ Rp K H O mu n v d := by
  unfold atI at h ⊢
  rw [r.len]
  cases e : ixN ds.length i with
  | none => rw [e] at h; cases h
  | some j =>
    rw [e] at h
    obtain ⟨v, e1, r1⟩ := r.get (i := j) h
    exact ⟨v, e1, r1⟩
theorem Rps.ints {H : Hp} {O : Av} {mu : Nat → Addr} {n : Nat} : ∀ {vs : List V} {ns : List Int}, Rps K H O mu n vs (ns.map D.int) → vs = ns.map V.int
  | _, [], .nil => rfl
  | _, i :: ns, .cons h r => by
    rw [rp_int h, Rps.ints (ns := ns) r]
    rfl
theorem Rps.of_ints {H : Hp} {O : Av} {mu : Nat → Addr} {n : Nat} : ∀ (ns : List Int), Rps K H O mu n (ns.map V.int) (ns.map D.int)
  | [] => .nil
  | i :: ns => .cons (.int i) (Rps.of_ints ns)
theorem Rps.bls {H : Hp} {O : Av} {mu : Nat → Addr} {n : Nat} : ∀ {vs : List V} {ns : List Bool}, Rps K H O mu n vs (ns.map D.bl) → vs = ns.map V.bl
  | _, [], .nil => rfl
  | _, i :: ns, .cons h r => by
    rw [rp_bl h, Rps.bls (ns := ns) r]
    rfl
theorem RpF.look {H : Hp} {O : Av} {mu : Nat → Addr} {n : Nat} {f : Str} : ∀ {vs : List (Str × V)} {ds : List (Str × D)} {d : D}, RpF K H O mu n vs ds → ds.lookup f = some d → ∃ v, vs.lookup f = some v ∧ Rp K H O mu n v d
  | _, _, _, .nil, h => by cases h
  | _, _, d, .cons (f := g) (v := w) (d := e) (vs := vs) (ds := ds) h r, q => by
    rw [List.lookup_cons] at q
    rw [List.lookup_cons]
    cases hc : (f == g) with
    | true =>
      rw [hc] at q
      have e' := Option.some.inj q
      subst e'
      exact ⟨_, rfl, h⟩
    | false =>
      rw [hc] at q
      exact RpF.look r q
theorem RpF.none {H : Hp} {O : Av} {mu : Nat → Addr} {n : Nat} {f : Str} : ∀ {vs : List (Str × V)} {ds : List (Str × D)}, RpF K H O mu n vs ds → ds.lookup f = none → vs.lookup f = Option.none
  | _, _, .nil, h => rfl
  | _, _, .cons (f := g) (v := w) (d := e) (vs := vs) (ds := ds) h r, q => by
    rw [List.lookup_cons] at q
    rw [List.lookup_cons]
    cases hc : (f == g) with
    | true => rw [hc] at q; cases q
    | false =>
      rw [hc] at q
      exact RpF.none r q
theorem RpF.len {H : Hp} {O : Av} {mu : Nat → Addr} {n : Nat} : ∀ {vs : List (Str × V)} {ds : List (Str × D)}, RpF K H O mu n vs ds → vs.length = ds.length
  | _, _, .nil => rfl
  | _, _, .cons _ r => congrArg (· + 1) (RpF.len r)
def putD (f : Str) (v : D) : List (Str × D) → List (Str × D)
  | [] => [(f, v)]
  | p :: r => if p.1 = f then (f, v) :: r else p :: putD f v r
end
end DL

namespace DL
open PySem L2
/-! ### names, constants -/
def wVar (i : Nat) : TDe := fun _ rho M Phi => match rho[i]? with
  | some (some d) => Phi d M
  | _ => False
def wC (d : D) : TDe := fun _ _ M Phi => Phi d M
section
variable {X : Cx} {T : TabT} {W : WX} {e a b : Expr} {es : List Expr} {w wa wb : TDe} {pos : Pos}
theorem ed_var (i : Nat) {x : Str} (h : PE X (.Name x pos) (tVar i)) : ED X T W (.Name x pos) (wVar i) := by
  refine ⟨pe_of h ?_⟩
  rintro σ H Q ⟨G, S, rho, xc, Phi, rfl, rel, ge, w, fin⟩
  unfold wVar at w
  cases hr : rho[i]? with
  | none => rw [hr] at w; exact w.elim
  | some o =>
    rw [hr] at w
    cases o with
    | none => exact w.elim
    | some d =>
      obtain ⟨v, e1, r⟩ := rel.slots.get i d hr
      exact ⟨v, e1, fin d S v w (Step.refl S) rel r⟩
theorem ed_c {v : V} {d : D} (h : PE X e (tC v)) (r : ∀ K H O mu n, Rp K H O mu n v d) : ED X T W e (wC d) := by
  refine ⟨pe_of h ?_⟩
  rintro σ H Q ⟨G, S, rho, xc, Phi, rfl, rel, ge, w, fin⟩
  exact fin d S v w (Step.refl S) rel (r _ _ _ _ _)
theorem ed_int {i : Int} {j : Nat} : ED X T W (.Constant (.int i) j pos) (wC (.int i)) := ed_c pe_int fun _ _ _ _ _ => .int i
theorem ed_bl {i : Bool} {j : Nat} : ED X T W (.Constant (.bool i) j pos) (wC (.bl i)) := ed_c pe_bl fun _ _ _ _ _ => .bl i
theorem ed_non {j : Nat} : ED X T W (.Constant .none j pos) (wC .non) := ed_c pe_non fun _ _ _ _ _ => .non
theorem ed_str {i : Str} {j : Nat} : ED X T W (.Constant (.str i) j pos) (wC (.str i)) := ed_c pe_str fun _ _ _ _ _ => .str i

/-! ### two-place operations -/
abbrev Op2 := List D → D → D → (D → Prop) → Prop
def OpD (K : PySem.W.Frag) (r : R2) (f : Op2) : Prop := ∀ (O0 : Av) (T : TabT) (S : Sto) (x y : V) (a b : D) (Psi : D → Prop) (Q : VK), SOk K O0 T S → R K O0 S x a → R K O0 S y b → f S.M a b Psi →
  (∀ d S' v, Psi d → S'.M = S.M → Step S S' → SOk K O0 T S' → R K O0 S' v d → Q v S'.H) → r x y S.H Q
def wBin (f : Op2) (wa wb : TDe) : TDe := fun xc rho M Phi => wa xc rho M fun a M1 => wb xc rho M1 fun b M2 => f M2 a b fun d => Phi d M2
theorem ti_bin {r : R2} {f : Op2} (hd : OpD X.K r f) : ∀ σ H Q, tD X.K T W (wBin f wa wb) σ H Q → tOp r (tD X.K T W wa) (tD X.K T W wb) σ H Q := by
  rintro σ H Q ⟨G, S, rho, xc, Phi, rfl, rel, ge, w, fin⟩
  refine ⟨G, S, rho, xc, _, rfl, rel, ge, w, fun d1 S1 x w1 s1 rel1 r1 => ?_⟩
  refine ⟨G, S1, rho, xc, _, rfl, rel1, ge, w1, fun d2 S2 y w2 s2 rel2 r2 => ?_⟩
  refine hd G.O0 T S2 x y d1 d2 _ Q rel2.ok (s2.rp r1) r2 w2 fun d S3 v p eM s3 ok3 r3 => ?_
  exact fin d S3 v (by rw [eM]; exact p) ((s1.trans s2).trans s3) (rel2.step' s3 ok3) r3
theorem ed_bin {op : Operator} {r : R2} {f : Op2} (ho : OpR X (binaryOp op) r) (hd : OpD X.K r f) (ha : ED X T W a wa) (hb : ED X T W b wb) : ED X T W (.BinOp a op b pos) (wBin f wa wb) :=
  ⟨pe_of (pe_op ho ha.run hb.run) (ti_bin hd)⟩
theorem ed_ix {r : R2} {f : Op2} (ho : IxR X r) (hd : OpD X.K r f) (ha : ED X T W a wa) (hb : ED X T W b wb) (hs : PlainIx b) : ED X T W (.Subscript a b pos) (wBin f wa wb) :=
  ⟨pe_of (pe_ix ho ha.run hb.run hs) (ti_bin hd)⟩
theorem ed_cmp {op : CmpOp} {r : R2} {f : Op2} (ho : OpR X (compareOp op) r) (hd : OpD X.K r f) (ha : ED X T W a wa) (hb : ED X T W b wb) (hm : behindInMarks op b = false) : ED X T W (.Compare a [op] [b] pos) (wBin f wa wb) :=
  ⟨pe_of (pe_cmpR ho ha.run hb.run hm) (ti_bin hd)⟩
/-- a value that is a flag, as a test -/
def isB (Phi : Bool → Prop) : D → Prop
  | .bl b => Phi b
  | _ => False
def wTst (w : TDe) : TDt := fun xc rho M Phi => w xc rho M fun d M' => isB (fun b => Phi b M') d
theorem isB_some {Phi : Bool → Prop} {d : D} (h : isB Phi d) : ∃ b, d = .bl b ∧ Phi b := by
  cases d with
  | bl b => exact ⟨b, rfl, h⟩
  | _ => exact h.elim
theorem ti_tst : ∀ σ H Q, tT X.K T W (wTst w) σ H Q → tTest (tD X.K T W w) σ H Q := by
  rintro σ H Q ⟨G, S, rho, xc, Phi, rfl, rel, ge, w, fin⟩
  refine ⟨G, S, rho, xc, _, rfl, rel, ge, w, fun d1 S1 x w1 s1 rel1 r1 => ?_⟩
  obtain ⟨b, rfl, p⟩ := isB_some w1
  exact ⟨b, rp_bl r1, fin b S1 p s1 rel1⟩
theorem et_cmp {op : CmpOp} {r : R2} {f : Op2} (ho : OpR X (compareOp op) r) (hd : OpD X.K r f) (ha : ED X T W a wa) (hb : ED X T W b wb) (hm : behindInMarks op b = false) : ET X T W (.Compare a [op] [b] pos) (wTst (wBin f wa wb)) := by
  refine ⟨pt_of (pt_cmpR ho ha.run hb.run hm) fun σ H Q h => ?_⟩
  obtain ⟨G, S, rho, xc, Phi, rfl, rel, ge, w, fin⟩ := ti_tst (w := wBin f wa wb) (X := X) (W := W) σ H Q h |> fun z => z
  exact ti_bin hd σ _ _ ⟨G, S, rho, xc, Phi, rfl, rel, ge, w, fin⟩
theorem et_val (h : ED X T W e w) (he : ∀ whole, isTrue e X.env whole = (do let v ← whole; standAt e.pos; holding [v] (truthy v)) := by intro _; rfl) : ET X T W e (wTst w) :=
  ⟨pt_of (pt_val h.run he) fun σ H Q q => ti_tst σ H Q q⟩

/-! ### one-place operations -/
abbrev Op1 := List D → D → (D → Prop) → Prop
def OpD1 (K : PySem.W.Frag) (r : V → Hp → VK → Prop) (f : Op1) : Prop := ∀ (O0 : Av) (T : TabT) (S : Sto) (x : V) (a : D) (Psi : D → Prop) (Q : VK), SOk K O0 T S → R K O0 S x a → f S.M a Psi →
  (∀ d S' v, Psi d → S'.M = S.M → Step S S' → SOk K O0 T S' → R K O0 S' v d → Q v S'.H) → r x S.H Q
def wUn (f : Op1) (wa : TDe) : TDe := fun xc rho M Phi => wa xc rho M fun a M1 => f M1 a fun d => Phi d M1
theorem ed_un {op : UnaryOp} {r : V → Hp → VK → Prop} {f : Op1} (ho : UnR X (unaryOp op) r) (hd : OpD1 X.K r f) (ha : ED X T W a wa) : ED X T W (.UnaryOp op a pos) (wUn f wa) := by
  refine ⟨pe_of (pe_un ho ha.run) ?_⟩
  rintro σ H Q ⟨G, S, rho, xc, Phi, rfl, rel, ge, w, fin⟩
  refine ⟨G, S, rho, xc, _, rfl, rel, ge, w, fun d1 S1 x w1 s1 rel1 r1 => ?_⟩
  refine hd G.O0 T S1 x d1 _ Q rel1.ok r1 w1 fun d S3 v p eM s3 ok3 r3 => ?_
  exact fin d S3 v (by rw [eM]; exact p) (s1.trans s3) (rel1.step' s3 ok3) r3

/-! ### and, or, not, if else -/
def wAnd (t u : TDt) : TDt := fun xc rho M Phi => t xc rho M fun c M1 => if c = true then u xc rho M1 Phi else Phi false M1
def wOr (t u : TDt) : TDt := fun xc rho M Phi => t xc rho M fun c M1 => if c = true then Phi true M1 else u xc rho M1 Phi
def wNot (t : TDt) : TDt := fun xc rho M Phi => t xc rho M fun c M1 => Phi (!c) M1
variable {ta tb : TDt} {rest : List Expr}
theorem EW.t (h : EW X T W e ta) : ET X T W e ta := ⟨h.run.pt⟩
theorem ew_and1 (ha : ET X T W a ta) : EW X T W (.BoolOp .And [a] pos) ta := ⟨pw_and1 ha.run⟩
theorem ew_or1 (ha : ET X T W a ta) : EW X T W (.BoolOp .Or [a] pos) ta := ⟨pw_or1 ha.run⟩
theorem ew_and (ha : ET X T W a ta) (hb : EW X T W (.BoolOp .And (b :: rest) pos) tb) : EW X T W (.BoolOp .And (a :: b :: rest) pos) (wAnd ta tb) := by
  refine ⟨pw_of (pw_and ha.run hb.run) ?_⟩
  rintro σ H Q ⟨G, S, rho, xc, Phi, rfl, rel, ge, w, fin⟩
  refine ⟨G, S, rho, xc, _, rfl, rel, ge, w, fun c S1 w1 s1 rel1 => ?_⟩
  cases c with
  | true => exact ⟨G, S1, rho, xc, _, rfl, rel1, ge, w1, fun b S2 w2 s2 rel2 => fin b S2 w2 (s1.trans s2) rel2⟩
  | false => exact fin false S1 w1 s1 rel1
theorem ew_or (ha : ET X T W a ta) (hb : EW X T W (.BoolOp .Or (b :: rest) pos) tb) : EW X T W (.BoolOp .Or (a :: b :: rest) pos) (wOr ta tb) := by
  refine ⟨pw_of (pw_or ha.run hb.run) ?_⟩
  rintro σ H Q ⟨G, S, rho, xc, Phi, rfl, rel, ge, w, fin⟩
  refine ⟨G, S, rho, xc, _, rfl, rel, ge, w, fun c S1 w1 s1 rel1 => ?_⟩
  cases c with
  | false => exact ⟨G, S1, rho, xc, _, rfl, rel1, ge, w1, fun b S2 w2 s2 rel2 => fin b S2 w2 (s1.trans s2) rel2⟩
  | true => exact fin true S1 w1 s1 rel1
theorem et_not (ha : ET X T W a ta) : ET X T W (.UnaryOp .Not a pos) (wNot ta) := by
  refine ⟨pt_of (pt_not ha.run) ?_⟩
  rintro σ H Q ⟨G, S, rho, xc, Phi, rfl, rel, ge, w, fin⟩
  exact ⟨G, S, rho, xc, _, rfl, rel, ge, w, fun c S1 w1 s1 rel1 => fin (!c) S1 w1 s1 rel1⟩
def wAndV (wa wb : TDe) : TDe := fun xc rho M Phi => wa xc rho M fun d M1 => isB (fun c => if c = true then wb xc rho M1 Phi else Phi (.bl false) M1) d
def wOrV (wa wb : TDe) : TDe := fun xc rho M Phi => wa xc rho M fun d M1 => isB (fun c => if c = true then Phi (.bl true) M1 else wb xc rho M1 Phi) d
def wNotV (wa : TDe) : TDe := fun xc rho M Phi => wa xc rho M fun d M1 => isB (fun c => Phi (.bl (!c)) M1) d
theorem ed_one {op : BoolOp} (ha : ED X T W a wa) : ED X T W (.BoolOp op [a] pos) wa := ⟨pe_one ha.run⟩
theorem ed_and (ha : ED X T W a wa) (hb : ED X T W (.BoolOp .And (b :: rest) pos) wb) : ED X T W (.BoolOp .And (a :: b :: rest) pos) (wAndV wa wb) := by
  refine ⟨pe_of (pe_and ha.run hb.run) ?_⟩
  rintro σ H Q ⟨G, S, rho, xc, Phi, rfl, rel, ge, w, fin⟩
  refine ⟨G, S, rho, xc, _, rfl, rel, ge, w, fun d1 S1 x w1 s1 rel1 r1 => ?_⟩
  obtain ⟨c, rfl, p⟩ := isB_some w1
  refine ⟨c, rp_bl r1, ?_⟩
  cases c with
  | true => exact ⟨G, S1, rho, xc, _, rfl, rel1, ge, p, fun d S2 v w2 s2 rel2 r2 => fin d S2 v w2 (s1.trans s2) rel2 r2⟩
  | false => exact fin _ S1 _ p s1 rel1 (.bl false)
theorem ed_or (ha : ED X T W a wa) (hb : ED X T W (.BoolOp .Or (b :: rest) pos) wb) : ED X T W (.BoolOp .Or (a :: b :: rest) pos) (wOrV wa wb) := by
  refine ⟨pe_of (pe_or ha.run hb.run) ?_⟩
  rintro σ H Q ⟨G, S, rho, xc, Phi, rfl, rel, ge, w, fin⟩
  refine ⟨G, S, rho, xc, _, rfl, rel, ge, w, fun d1 S1 x w1 s1 rel1 r1 => ?_⟩
  obtain ⟨c, rfl, p⟩ := isB_some w1
  refine ⟨c, rp_bl r1, ?_⟩
  cases c with
  | false => exact ⟨G, S1, rho, xc, _, rfl, rel1, ge, p, fun d S2 v w2 s2 rel2 r2 => fin d S2 v w2 (s1.trans s2) rel2 r2⟩
  | true => exact fin _ S1 _ p s1 rel1 (.bl true)
theorem ed_not (ha : ED X T W a wa) : ED X T W (.UnaryOp .Not a pos) (wNotV wa) := by
  refine ⟨pe_of (pe_not ha.run) ?_⟩
  rintro σ H Q ⟨G, S, rho, xc, Phi, rfl, rel, ge, w, fin⟩
  refine ⟨G, S, rho, xc, _, rfl, rel, ge, w, fun d1 S1 x w1 s1 rel1 r1 => ?_⟩
  obtain ⟨c, rfl, p⟩ := isB_some w1
  exact ⟨c, rp_bl r1, fin _ S1 _ p s1 rel1 (.bl _)⟩
def wIf (t : TDt) (wa wb : TDe) : TDe := fun xc rho M Phi => t xc rho M fun c M1 => if c = true then wa xc rho M1 Phi else wb xc rho M1 Phi
theorem ed_if {c : Expr} (hc : ET X T W c ta) (ha : ED X T W a wa) (hb : ED X T W b wb) : ED X T W (.IfExp c a b pos) (wIf ta wa wb) := by
  refine ⟨pe_of (pe_ifExp hc.run ha.run hb.run) ?_⟩
  rintro σ H Q ⟨G, S, rho, xc, Phi, rfl, rel, ge, w, fin⟩
  refine ⟨G, S, rho, xc, _, rfl, rel, ge, w, fun c S1 w1 s1 rel1 => ?_⟩
  cases c with
  | true => exact ⟨G, S1, rho, xc, _, rfl, rel1, ge, w1, fun d S2 v w2 s2 rel2 r2 => fin d S2 v w2 (s1.trans s2) rel2 r2⟩
  | false => exact ⟨G, S1, rho, xc, _, rfl, rel1, ge, w1, fun d S2 v w2 s2 rel2 r2 => fin d S2 v w2 (s1.trans s2) rel2 r2⟩
/-- a < b < c -/
def wChain (f g : Op2) (wa wb wc : TDe) : TDe := fun xc rho M Phi => wa xc rho M fun a M1 => wb xc rho M1 fun b M2 => f M2 a b fun d => isB (fun k => if k = true then wc xc rho M2 fun c M3 => g M3 b c fun e => Phi e M3 else Phi (.bl false) M2) d
end
end DL

namespace DL
open PySem L2
section
variable {X : Cx} {T : TabT} {W : WX} {e a b c : Expr} {es : List Expr} {w wa wb wc : TDe} {pos : Pos} {ta tb : TDt}
theorem ti_chain {r r' : R2} {f g : Op2} (hd : OpD X.K r f) (hg : OpD X.K r' g) : ∀ σ H Q, tD X.K T W (wChain f g wa wb wc) σ H Q → tChain r r' (tD X.K T W wa) (tD X.K T W wb) (tD X.K T W wc) σ H Q := by
  rintro σ H Q ⟨G, S, rho, xc, Phi, rfl, rel, ge, w, fin⟩
  refine ⟨G, S, rho, xc, _, rfl, rel, ge, w, fun d1 S1 x w1 s1 rel1 r1 => ?_⟩
  refine ⟨G, S1, rho, xc, _, rfl, rel1, ge, w1, fun d2 S2 y w2 s2 rel2 r2 => ?_⟩
  refine hd G.O0 T S2 x y d1 d2 _ _ rel2.ok (s2.rp r1) r2 w2 fun d S3 v p eM s3 ok3 r3 => ?_
  obtain ⟨k, rfl, p⟩ := isB_some p
  refine ⟨k, rp_bl r3, ?_⟩
  have rel3 := rel2.step' s3 ok3
  cases k with
  | true =>
    refine ⟨G, S3, rho, xc, _, rfl, rel3, ge, (by rw [eM]; exact p), fun d3 S4 z w4 s4 rel4 r4 => ?_⟩
    refine hg G.O0 T S4 y z d2 d3 _ Q rel4.ok ((s3.trans s4).rp r2) r4 w4 fun d S5 v p eM s5 ok5 r5 => ?_
    exact fin d S5 v (by rw [eM]; exact p) ((((s1.trans s2).trans s3).trans s4).trans s5) (rel4.step' s5 ok5) r5
  | false => exact fin _ S3 _ (by rw [eM]; exact p) ((s1.trans s2).trans s3) rel3 (.bl false)
theorem ed_chain {op op' : CmpOp} {r r' : R2} {f g : Op2} (ho : OpR X (compareOp op) r) (ho' : OpR X (compareOp op') r') (hd : OpD X.K r f) (hg : OpD X.K r' g) (ha : ED X T W a wa) (hb : ED X T W b wb) (hc : ED X T W c wc)
    (hm : lastMarks [op, op'] [b, c] = false := by with_unfolding_all rfl) : ED X T W (.Compare a [op, op'] [b, c] pos) (wChain f g wa wb wc) :=
  ⟨pe_of (pe_chain ho ho' ha.run hb.run hc.run hm) (ti_chain hd hg)⟩
theorem et_chain {op op' : CmpOp} {r r' : R2} {f g : Op2} (ho : OpR X (compareOp op) r) (ho' : OpR X (compareOp op') r') (hd : OpD X.K r f) (hg : OpD X.K r' g) (ha : ED X T W a wa) (hb : ED X T W b wb) (hc : ED X T W c wc)
    (hm : lastMarks [op, op'] [b, c] = false := by with_unfolding_all rfl) : ET X T W (.Compare a [op, op'] [b, c] pos) (wTst (wChain f g wa wb wc)) := by
  refine ⟨pt_of (pt_chain ho ho' ha.run hb.run hc.run hm) fun σ H Q h => ?_⟩
  have q : tTest (tD X.K T W (wChain f g wa wb wc)) σ H Q := ti_tst σ H Q h
  exact ti_chain hd hg σ H _ q

/-! ### arguments, tuples, lists -/
def wNil : TDa := fun _ _ M Phi => Phi [] M
def wCons (wa : TDe) (wr : TDa) : TDa := fun xc rho M Phi => wa xc rho M fun d M1 => wr xc rho M1 fun ds M2 => Phi (d :: ds) M2
/-- tA with the number of its values -/
structure EAn (X : Cx) (T : TabT) (W : WX) (es : List Expr) (w : TDa) : Prop where
  run : PA X es (fun σ H Q => ∃ G S rho xc Phi, S.H = H ∧ Rel X.K T G S rho σ ∧ GE X.K T G W xc ∧ w xc rho S.M Phi ∧
    ∀ ds S' vs, Phi ds S'.M → Step S S' → Rel X.K T G S' rho σ → Rs X.K G.O0 S' vs ds → ds.length = es.length → Q vs S'.H)
theorem ea_nil : EAn X T W [] wNil := by
  refine ⟨pa_of pa_nil ?_⟩
  rintro σ H Q ⟨G, S, rho, xc, Phi, rfl, rel, ge, w, fin⟩
  exact fin [] S [] w (Step.refl S) rel .nil rfl
theorem ea_cons {wr : TDa} (ha : ED X T W a wa) (hr : EAn X T W es wr) (hs : starEach (a :: es) X.env = (false, eval a X.env) :: starEach es X.env := by rfl) : EAn X T W (a :: es) (wCons wa wr) := by
  refine ⟨pa_of (pa_cons ha.run hr.run hs) ?_⟩
  rintro σ H Q ⟨G, S, rho, xc, Phi, rfl, rel, ge, w, fin⟩
  refine ⟨G, S, rho, xc, _, rfl, rel, ge, w, fun d S1 x w1 s1 rel1 r1 => ?_⟩
  refine ⟨G, S1, rho, xc, _, rfl, rel1, ge, w1, fun ds S2 vs w2 s2 rel2 r2 l2 => ?_⟩
  exact fin (d :: ds) S2 (x :: vs) w2 (s1.trans s2) rel2 (.cons (s2.rp r1) r2) (congrArg (· + 1) l2)
theorem EAn.plain {w : TDa} (h : EAn X T W es w) : EA X T W es w := by
  refine ⟨pa_of h.run ?_⟩
  rintro σ H Q ⟨G, S, rho, xc, Phi, rfl, rel, ge, w, fin⟩
  exact ⟨G, S, rho, xc, Phi, rfl, rel, ge, w, fun ds S' vs p s r q _ => fin ds S' vs p s r q⟩
def wTup (w : TDa) : TDe := fun xc rho M Phi => w xc rho M fun ds M1 => Phi (.tup ds) M1
def wLst (w : TDa) : TDe := fun xc rho M Phi => w xc rho M fun ds M1 => Phi (.lst ds) M1
theorem ed_tup {w : TDa} {x1 : Nat} (h : EAn X T W es w) (hl : es.length ≤ sizeLine := by simp [sizeLine_eq]) : ED X T W (.Tuple es x1 pos) (wTup w) := by
  refine ⟨pe_of (pe_tup h.run) ?_⟩
  rintro σ H Q ⟨G, S, rho, xc, Phi, rfl, rel, ge, w, fin⟩
  refine ⟨G, S, rho, xc, _, rfl, rel, ge, w, fun ds S1 vs w1 s1 rel1 r1 l1 => ⟨by rw [r1.len, l1]; exact hl, fun p hp => ?_⟩⟩
  have s2 : Step S1 (S1.lay p (.tup vs)) := Step.lay hp
  exact fin _ (S1.lay p (.tup vs)) _ w1 (s1.trans s2) (rel1.step' s2 (rel1.ok.lay hp)) (.tup (.inl ⟨notO_of_free (S := S1) rel1.ok hp, upd_same⟩) (by rw [l1]; exact hl) (s2.rps r1))
theorem en_lst {w : TDa} (h : EAn X T W es w) (hl : es.length ≤ sizeLine := by simp [sizeLine_eq]) : EN X T W (.List es pos) (wLst w) := by
  refine ⟨pe_of (pe_lst h.run) ?_⟩
  rintro σ H Q ⟨G, S, rho, xc, Phi, rfl, rel, ge, w, fin⟩
  refine ⟨G, S, rho, xc, _, rfl, rel, ge, w, fun ds S1 vs w1 s1 rel1 r1 l1 => ⟨by rw [r1.len, l1]; exact hl, fun p hp => ?_⟩⟩
  exact fin (.lst ds) S1 p (.lst vs) w1 s1 rel1 hp ⟨vs, rfl, by rw [l1]; exact hl, r1⟩
/-- a new thing as a value -/
theorem EN.d (h : EN X T W e w) : ED X T W e w := by
  refine ⟨pe_of h.run ?_⟩
  rintro σ H Q ⟨G, S, rho, xc, Phi, rfl, rel, ge, w, fin⟩
  refine ⟨G, S, rho, xc, _, rfl, rel, ge, w, fun d S1 p o w1 s1 rel1 hp c => ?_⟩
  have s2 : Step S1 (S1.lay p o) := Step.lay hp
  exact fin d (S1.lay p o) _ w1 (s1.trans s2) (rel1.step' s2 (rel1.ok.lay hp)) (c.rp (s2.carry G.O0) upd_same (notO_of_free (S := S1) rel1.ok hp))

/-! ### calls of built-ins -/
abbrev OpA := List D → List D → (D → Prop) → Prop
def OpDA (K : PySem.W.Frag) (r : List V → Hp → VK → Prop) (f : OpA) : Prop := ∀ (O0 : Av) (T : TabT) (S : Sto) (xs : List V) (as : List D) (Psi : D → Prop) (Q : VK), SOk K O0 T S → Rs K O0 S xs as → f S.M as Psi →
  (∀ d S' v, Psi d → S'.M = S.M → Step S S' → SOk K O0 T S' → R K O0 S' v d → Q v S'.H) → r xs S.H Q
/-- .. that give a new thing -/
def OpDN (K : PySem.W.Frag) (r : List V → Hp → VK → Prop) (f : OpA) : Prop := ∀ (O0 : Av) (T : TabT) (S : Sto) (xs : List V) (as : List D) (Psi : D → Prop) (Q : VK), SOk K O0 T S → Rs K O0 S xs as → f S.M as Psi →
  (∀ d a o, Psi d → S.H a = none → Con K S.H (S.O O0) S.mu S.M.length o d → Q (.ref a) (upd S.H a o)) → r xs S.H Q
def wCB (f : OpA) (w : TDa) : TDe := fun xc rho M Phi => w xc rho M fun ds M1 => f M1 ds fun d => Phi d M1
theorem ed_cb {id : String} {r : List V → Hp → VK → Prop} {f : OpA} {w : TDa} {x : Str} {p : Pos} (hc : CallR X (.builtin id) r) (hd : OpDA X.K r f) (hg : Gl X x) (hm : X.mg x = none) (hv : bootBuiltins x = some (.builtin id)) (ha : EA X T W (e :: es) w)
    (hn : x ≠ "__name__" := by decide) (hdb : (x == ("__debug__" : Str)) = false := by decide)
    (he : starEach (e :: es) X.env = (false, eval e X.env) :: starEach es X.env := by rfl) (hpl : (backTo pos (starEach es X.env)).any (·.1) = false := by rfl) : ED X T W (.Call (.Name x p) (e :: es) [] pos) (wCB f w) := by
  refine ⟨pe_of (pe_callB hc hg hm hv ha.run hn hdb he hpl) ?_⟩
  rintro σ H Q ⟨G, S, rho, xc, Phi, rfl, rel, ge, w, fin⟩
  refine ⟨G, S, rho, xc, _, rfl, rel, ge, w, fun ds S1 vs w1 s1 rel1 r1 => ?_⟩
  refine hd G.O0 T S1 vs ds _ Q rel1.ok r1 w1 fun d S3 v p eM s3 ok3 r3 => ?_
  exact fin d S3 v (by rw [eM]; exact p) (s1.trans s3) (rel1.step' s3 ok3) r3
theorem en_cb {id : String} {r : List V → Hp → VK → Prop} {f : OpA} {w : TDa} {x : Str} {p : Pos} (hc : CallR X (.builtin id) r) (hd : OpDN X.K r f) (hg : Gl X x) (hm : X.mg x = none) (hv : bootBuiltins x = some (.builtin id)) (ha : EA X T W (e :: es) w)
    (hn : x ≠ "__name__" := by decide) (hdb : (x == ("__debug__" : Str)) = false := by decide)
    (he : starEach (e :: es) X.env = (false, eval e X.env) :: starEach es X.env := by rfl) (hpl : (backTo pos (starEach es X.env)).any (·.1) = false := by rfl) : EN X T W (.Call (.Name x p) (e :: es) [] pos) (wCB f w) := by
  refine ⟨pe_of (pe_callB hc hg hm hv ha.run hn hdb he hpl) ?_⟩
  rintro σ H Q ⟨G, S, rho, xc, Phi, rfl, rel, ge, w, fin⟩
  refine ⟨G, S, rho, xc, _, rfl, rel, ge, w, fun ds S1 vs w1 s1 rel1 r1 => ?_⟩
  exact hd G.O0 T S1 vs ds _ Q rel1.ok r1 w1 fun d a o p ha c => fin d S1 a o p s1 rel1 ha c
theorem ed_ct {id : String} {r : List V → Hp → VK → Prop} {f : OpA} {w : TDa} {x : Str} {p : Pos} (hc : CallR X (.type id) r) (hd : OpDA X.K r f) (hg : Gl X x) (hm : X.mg x = none) (hv : bootBuiltins x = some (.type id)) (ha : EA X T W (e :: es) w)
    (hn : x ≠ "__name__" := by decide) (hdb : (x == ("__debug__" : Str)) = false := by decide)
    (he : starEach (e :: es) X.env = (false, eval e X.env) :: starEach es X.env := by rfl) (hpl : (backTo pos (starEach es X.env)).any (·.1) = false := by rfl) : ED X T W (.Call (.Name x p) (e :: es) [] pos) (wCB f w) := by
  refine ⟨pe_of (pe_callTy hc hg hm hv ha.run hn hdb he hpl) ?_⟩
  rintro σ H Q ⟨G, S, rho, xc, Phi, rfl, rel, ge, w, fin⟩
  refine ⟨G, S, rho, xc, _, rfl, rel, ge, w, fun ds S1 vs w1 s1 rel1 r1 => ?_⟩
  refine hd G.O0 T S1 vs ds _ Q rel1.ok r1 w1 fun d S3 v p eM s3 ok3 r3 => ?_
  exact fin d S3 v (by rw [eM]; exact p) (s1.trans s3) (rel1.step' s3 ok3) r3
theorem en_ct {id : String} {r : List V → Hp → VK → Prop} {f : OpA} {w : TDa} {x : Str} {p : Pos} (hc : CallR X (.type id) r) (hd : OpDN X.K r f) (hg : Gl X x) (hm : X.mg x = none) (hv : bootBuiltins x = some (.type id)) (ha : EA X T W (e :: es) w)
    (hn : x ≠ "__name__" := by decide) (hdb : (x == ("__debug__" : Str)) = false := by decide)
    (he : starEach (e :: es) X.env = (false, eval e X.env) :: starEach es X.env := by rfl) (hpl : (backTo pos (starEach es X.env)).any (·.1) = false := by rfl) : EN X T W (.Call (.Name x p) (e :: es) [] pos) (wCB f w) := by
  refine ⟨pe_of (pe_callTy hc hg hm hv ha.run hn hdb he hpl) ?_⟩
  rintro σ H Q ⟨G, S, rho, xc, Phi, rfl, rel, ge, w, fin⟩
  refine ⟨G, S, rho, xc, _, rfl, rel, ge, w, fun ds S1 vs w1 s1 rel1 r1 => ?_⟩
  exact hd G.O0 T S1 vs ds _ Q rel1.ok r1 w1 fun d a o p ha c => fin d S1 a o p s1 rel1 ha c

/-! ### fields -/
def wFld (cs : List Addr) (f : Str) (wa : TDe) : TDe := fun xc rho M Phi => wa xc rho M fun d M1 => match insOf M1 d with
  | some (C, fs) => C ∈ cs ∧ match fs.lookup f with
    | some v => Phi v M1
    | none => False
  | none => False
theorem ed_fld {cs : List Addr} {f : Str} (hc : ∀ C, C ∈ cs → Cls X.K C ∧ NoAttr X.K C f) (ha : ED X T W a wa) (hb : attributeBase a f X.env (eval a X.env) = eval a X.env := by rfl) : ED X T W (.Attribute a f pos) (wFld cs f wa) := by
  refine ⟨pe_of (pe_fld ha.run hb) ?_⟩
  rintro σ H Q ⟨G, S, rho, xc, Phi, rfl, rel, ge, w, fin⟩
  refine ⟨G, S, rho, xc, _, rfl, rel, ge, w, fun d S1 x w1 s1 rel1 r1 => ?_⟩
  cases hi : insOf S1.M d with
  | none => rw [hi] at w1; exact w1.elim
  | some p =>
    obtain ⟨C, fs⟩ := p
    rw [hi] at w1
    obtain ⟨hC, w1⟩ := w1
    cases hl : fs.lookup f with
    | none => rw [hl] at w1; exact w1.elim
    | some v =>
      rw [hl] at w1
      obtain ⟨p, dx, fvs, e1, e2, rf⟩ := r_ins rel1.ok r1 hi
      obtain ⟨v', e3, r3⟩ := rf.look hl
      obtain ⟨h1, h2⟩ := hc C hC
      exact ⟨p, C, dx, fvs, v', e1, e2, h1, h2, e3, fin v S1 v' w1 s1 rel1 r3⟩

/-! ### slices -/
abbrev OpS := List D → D → Option Int → Option Int → (D → Prop) → Prop
def OpDS (K : PySem.W.Frag) (r : V → Option Int → Option Int → Hp → VK → Prop) (f : OpS) : Prop := ∀ (O0 : Av) (T : TabT) (S : Sto) (x : V) (a : D) (lo hi : Option Int) (Psi : D → Prop) (Q : VK), SOk K O0 T S → R K O0 S x a → f S.M a lo hi Psi →
  (∀ d S' v, Psi d → S'.M = S.M → Step S S' → SOk K O0 T S' → R K O0 S' v d → Q v S'.H) → r x lo hi S.H Q
abbrev TDo := XC → Rho → List D → (Option Int → List D → Prop) → Prop
def tO (K : PySem.W.Frag) (T : TabT) (W : WX) (w : TDo) : TO := fun σ H Q => ∃ G S rho xc Phi, S.H = H ∧ Rel K T G S rho σ ∧ GE K T G W xc ∧ w xc rho S.M Phi ∧
  ∀ o S', Phi o S'.M → Step S S' → Rel K T G S' rho σ → Q o S'.H
structure EO (X : Cx) (T : TabT) (W : WX) (e : Option Expr) (w : TDo) : Prop where
  run : PO X e (tO X.K T W w)
theorem po_of {e : Option Expr} {t t' : TO} (h : PO X e t) (i : ∀ σ H Q, t' σ H Q → t σ H Q) : PO X e t' := ⟨fun pins s σ H Q I q => h.run pins s σ H Q I (i σ H Q q)⟩
def wONone : TDo := fun _ _ M Phi => Phi none M
def isI (Phi : Int → Prop) : D → Prop
  | .int i => Phi i
  | _ => False
theorem isI_some {Phi : Int → Prop} {d : D} (h : isI Phi d) : ∃ b, d = .int b ∧ Phi b := by
  cases d with
  | int b => exact ⟨b, rfl, h⟩
  | _ => exact h.elim
def wOSome (w : TDe) : TDo := fun xc rho M Phi => w xc rho M fun d M1 => isI (fun i => Phi (some i) M1) d
theorem eo_none : EO X T W none wONone := by
  refine ⟨po_of po_none ?_⟩
  rintro σ H Q ⟨G, S, rho, xc, Phi, rfl, rel, ge, w, fin⟩
  exact fin none S w (Step.refl S) rel
theorem eo_some (ha : ED X T W a wa) : EO X T W (some a) (wOSome wa) := by
  refine ⟨po_of (po_some ha.run) ?_⟩
  rintro σ H Q ⟨G, S, rho, xc, Phi, rfl, rel, ge, w, fin⟩
  refine ⟨G, S, rho, xc, _, rfl, rel, ge, w, fun d S1 x w1 s1 rel1 r1 => ?_⟩
  obtain ⟨i, rfl, p⟩ := isI_some w1
  exact ⟨i, rp_int r1, fin _ S1 p s1 rel1⟩
def wSl (f : OpS) (wa : TDe) (wl wh : TDo) : TDe := fun xc rho M Phi => wa xc rho M fun d M1 => wl xc rho M1 fun lo M2 => wh xc rho M2 fun hi M3 => f M3 d lo hi fun d' => Phi d' M3
theorem ed_sl {r : V → Option Int → Option Int → Hp → VK → Prop} {f : OpS} {lo hi : Option Expr} {wl wh : TDo} {p2 : Pos} (hr : SlR X r) (hd : OpDS X.K r f) (ha : ED X T W a wa) (hl : EO X T W lo wl) (hh : EO X T W hi wh) : ED X T W (.Subscript a (.Slice lo hi none p2) pos) (wSl f wa wl wh) := by
  refine ⟨pe_of (pe_slice hr ha.run hl.run hh.run) ?_⟩
  rintro σ H Q ⟨G, S, rho, xc, Phi, rfl, rel, ge, w, fin⟩
  refine ⟨G, S, rho, xc, _, rfl, rel, ge, w, fun d S1 x w1 s1 rel1 r1 => ?_⟩
  refine ⟨G, S1, rho, xc, _, rfl, rel1, ge, w1, fun lo S2 w2 s2 rel2 => ?_⟩
  refine ⟨G, S2, rho, xc, _, rfl, rel2, ge, w2, fun hi S3 w3 s3 rel3 => ?_⟩
  refine hd G.O0 T S3 x d lo hi _ Q rel3.ok ((s2.trans s3).rp r1) w3 fun d' S4 v p eM s4 ok4 r4 => ?_
  exact fin d' S4 v (by rw [eM]; exact p) (((s1.trans s2).trans s3).trans s4) (rel3.step' s4 ok4) r4
end

/-! ### statements -/
section
variable {X : Cx} {T : TabT} {W : WX} {st : Stmt} {rest : List Stmt} {w1 w2 : TDs} {e : Expr} {we : TDe} {pos : Pos}
def wSeq (w1 w2 : TDs) : TDs := fun xc F rho M => w1 xc { F with nx := fun rho' M' => w2 xc F rho' M' } rho M
def wSkip : TDs := fun _ F rho M => F.nx rho M
theorem sds_nil : SDs X T W [] wSkip := by
  refine ⟨pss_of pss_nil ?_⟩
  rintro Dn σ H ⟨G, S, rho, xc, F, rfl, rel, ge, w, ends⟩
  exact ends.nx S rho σ w rel
theorem sds_cons (h1 : SD X T W st w1) (h2 : SDs X T W rest w2) : SDs X T W (st :: rest) (wSeq w1 w2) := by
  refine ⟨pss_of (pss_cons h1.run h2.run) ?_⟩
  rintro Dn σ H ⟨G, S, rho, xc, F, rfl, rel, ge, w, ends⟩
  exact ⟨G, S, rho, xc, _, rfl, rel, ge, w, ⟨fun S' rho' σ' w' rel' => ⟨G, S', rho', xc, F, rfl, rel', ge, w', ends⟩, ends.rt, ends.bk, ends.ct⟩⟩
theorem sds_one (h1 : SD X T W st w1) : SDs X T W [st] w1 := ⟨pss_one h1.run⟩
def wBreak : TDs := fun _ F rho M => F.bk rho M
def wCont : TDs := fun _ F rho M => F.ct rho M
theorem sd_pass : SD X T W (.Pass pos) wSkip := by
  refine ⟨ps_of ps_pass ?_⟩
  rintro Dn σ H ⟨G, S, rho, xc, F, rfl, rel, ge, w, ends⟩
  exact ends.nx S rho σ w rel
theorem sd_break : SD X T W (.Break pos) wBreak := by
  refine ⟨ps_of ps_break ?_⟩
  rintro Dn σ H ⟨G, S, rho, xc, F, rfl, rel, ge, w, ends⟩
  exact ends.bk S rho σ w rel
theorem sd_cont : SD X T W (.Continue pos) wCont := by
  refine ⟨ps_of ps_continue ?_⟩
  rintro Dn σ H ⟨G, S, rho, xc, F, rfl, rel, ge, w, ends⟩
  exact ends.ct S rho σ w rel
def wDrop (we : TDe) : TDs := fun xc F rho M => we xc rho M fun _ M1 => F.nx rho M1
theorem sd_expr (he : ED X T W e we) (hs : swapsWith e none pos.line X.env = pure false := by rfl) : SD X T W (.Expr e pos) (wDrop we) := by
  refine ⟨ps_of (ps_expr he.run hs) ?_⟩
  rintro Dn σ H ⟨G, S, rho, xc, F, rfl, rel, ge, w, ends⟩
  exact ⟨G, S, rho, xc, _, rfl, rel, ge, w, fun d S1 v w1 s1 rel1 r1 => ends.nx S1 rho σ w1 rel1⟩
def wRet (we : TDe) : TDs := fun xc F rho M => we xc rho M fun d M1 => F.rt d M1
theorem sd_ret (he : ED X T W e we) : SD X T W (.Return (some e) pos) (wRet we) := by
  refine ⟨ps_of (ps_ret he.run) ?_⟩
  rintro Dn σ H ⟨G, S, rho, xc, F, rfl, rel, ge, w, ends⟩
  exact ⟨G, S, rho, xc, _, rfl, rel, ge, w, fun d S1 v w1 s1 rel1 r1 => ends.rt S1 d v w1 rel1.ok rel1.step r1⟩
def wRetN : TDs := fun _ F _ M => F.rt .non M
theorem sd_retN : SD X T W (.Return none pos) wRetN := by
  refine ⟨ps_of ps_retN ?_⟩
  rintro Dn σ H ⟨G, S, rho, xc, F, rfl, rel, ge, w, ends⟩
  exact ends.rt S .non .non w rel.ok rel.step .non
def wIte (t : TDt) (w1 w2 : TDs) : TDs := fun xc F rho M => t xc rho M fun b M1 => if b = true then w1 xc F rho M1 else w2 xc F rho M1
theorem sd_if {c : Expr} {a b : List Stmt} {t : TDt} (hc : ET X T W c t) (ha : SDs X T W a w1) (hb : SDs X T W b w2) : SD X T W (.If c a b pos) (wIte t w1 w2) := by
  refine ⟨ps_of (ps_if hc.run ha.run hb.run) ?_⟩
  rintro Dn σ H ⟨G, S, rho, xc, F, rfl, rel, ge, w, ends⟩
  refine ⟨G, S, rho, xc, _, rfl, rel, ge, w, fun b S1 w1 s1 rel1 => ?_⟩
  cases b with
  | true => exact ⟨G, S1, rho, xc, F, rfl, rel1, ge, w1, ends⟩
  | false => exact ⟨G, S1, rho, xc, F, rfl, rel1, ge, w1, ends⟩
theorem Slots.set {K : PySem.W.Frag} {O0 : Av} {S : Sto} {rho : Rho} {σ : St} (h : Slots K O0 S rho σ) {i : Nat} {v : V} {d : D} (r : R K O0 S v d) : Slots K O0 S (rho.set i (some d)) (σ.set i (some v)) := by
  refine ⟨by simp [h.len], fun j d' e => ?_⟩
  by_cases hj : i = j
  · subst hj
    have hl : i < rho.length := by
      have := (List.getElem?_eq_some_iff.mp e).1
      simpa using this
    rw [List.getElem?_set_self hl] at e
    have e' := Option.some.inj (Option.some.inj e)
    subst e'
    exact ⟨v, by rw [List.getElem?_set_self (by rw [← h.len]; exact hl)], r⟩
  · rw [List.getElem?_set_ne hj] at e
    obtain ⟨v', e1, r1⟩ := h.get j d' e
    exact ⟨v', by rw [List.getElem?_set_ne hj]; exact e1, r1⟩
theorem Rel.set {K : PySem.W.Frag} {T : TabT} {G : Ctx} {S : Sto} {rho : Rho} {σ : St} (h : Rel K T G S rho σ) {i : Nat} {v : V} {d : D} (r : R K G.O0 S v d) : Rel K T G S (rho.set i (some d)) (σ.set i (some v)) := ⟨h.ok, h.step, h.slots.set r⟩

/-! ### targets -/
abbrev TDg := D → Rho → List D → (Rho → List D → Prop) → Prop
/-- the slots in is alone may change -/
def Wip (is : List Nat) (σ σ' : St) : Prop := ∀ vs : List Nat, (∀ i, i ∈ is → i ∈ vs) → wipe σ' vs = wipe σ vs
theorem Wip.refl {σ : St} : Wip [] σ σ := fun _ _ => rfl
theorem wipe_get (σ : St) : ∀ (vs : List Nat) (j : Nat), (wipe σ vs)[j]? = if j ∈ vs ∧ j < σ.length then some none else σ[j]?
  | [], j => by simp [wipe]
  | v :: vs, j => by
    have ih := wipe_get σ vs j
    unfold wipe
    by_cases h : v = j
    · subst h
      by_cases hl : v < σ.length
      · rw [List.getElem?_set_self (by rw [wipe_length]; exact hl), if_pos ⟨List.mem_cons_self, hl⟩]
      · rw [if_neg (fun z => hl z.2), List.getElem?_eq_none (by rw [List.length_set, wipe_length]; omega), List.getElem?_eq_none (by omega)]
    · rw [List.getElem?_set_ne h, ih]
      by_cases hm : j ∈ vs ∧ j < σ.length
      · rw [if_pos hm, if_pos ⟨List.mem_cons_of_mem _ hm.1, hm.2⟩]
      · rw [if_neg hm, if_neg (fun z => hm ⟨(List.mem_cons.mp z.1).resolve_left (fun e => h e.symm), z.2⟩)]
theorem Wip.set {σ : St} {i : Nat} {v : Option V} : Wip [i] σ (σ.set i v) := fun vs h => by
  apply List.ext_getElem?
  intro j
  rw [wipe_get, wipe_get, List.length_set]
  by_cases hj : j ∈ vs ∧ j < σ.length
  · rw [if_pos hj, if_pos hj]
  · rw [if_neg hj, if_neg hj]
    by_cases e : i = j
    · subst e
      have hi : i ∈ vs := h i List.mem_cons_self
      have hl : ¬ i < σ.length := fun z => hj ⟨hi, z⟩
      rw [List.getElem?_eq_none (by rw [List.length_set]; omega), List.getElem?_eq_none (by omega)]
    · rw [List.getElem?_set_ne e]
theorem Wip.trans {is js : List Nat} {σ σ1 σ2 : St} (a : Wip is σ σ1) (b : Wip js σ1 σ2) : Wip (is ++ js) σ σ2 := fun vs h =>
  (b vs fun i hi => h i (List.mem_append_right _ hi)).trans (a vs fun i hi => h i (List.mem_append_left _ hi))
def tG (K : PySem.W.Frag) (T : TabT) (is : List Nat) (w : TDg) : TG := fun v σ H Q => ∃ G S rho d Phi, S.H = H ∧ Rel K T G S rho σ ∧ R K G.O0 S v d ∧ w d rho S.M Phi ∧ ∀ rho' S' σ', Phi rho' S'.M → Step S S' → Rel K T G S' rho' σ' → Wip is σ σ' → Q σ' S'.H
def tGs (K : PySem.W.Frag) (T : TabT) (is : List Nat) (w : List D → Rho → List D → (Rho → List D → Prop) → Prop) : TGs := fun vs σ H Q => ∃ G S rho ds Phi, S.H = H ∧ Rel K T G S rho σ ∧ Rs K G.O0 S vs ds ∧ w ds rho S.M Phi ∧ ∀ rho' S' σ', Phi rho' S'.M → Step S S' → Rel K T G S' rho' σ' → Wip is σ σ' → Q σ' S'.H
structure GD (X : Cx) (T : TabT) (is : List Nat) (tg : Expr) (w : TDg) : Prop where
  run : PG X tg (tG X.K T is w)
structure GDs (X : Cx) (T : TabT) (is : List Nat) (tgs : List Expr) (w : List D → Rho → List D → (Rho → List D → Prop) → Prop) : Prop where
  run : PGs X tgs (tGs X.K T is w)
theorem pg_of {tg : Expr} {t t' : TG} (h : PG X tg t) (i : ∀ v σ H Q, t' v σ H Q → t v σ H Q) : PG X tg t' := ⟨fun pins s σ H v u Q I r q => h.run pins s σ H v u Q I r (i v σ H Q q)⟩
theorem pgs_of {tg : List Expr} {t t' : TGs} (h : PGs X tg t) (i : ∀ v σ H Q, t' v σ H Q → t v σ H Q) : PGs X tg t' := ⟨fun pins s σ H v u Q I r q => h.run pins s σ H v u Q I r (i v σ H Q q)⟩
def gN (i : Nat) : TDg := fun d rho M Phi => Phi (rho.set i (some d)) M
theorem gd_name {i : Nat} {x : Str} (h : PG X (.Name x pos) (gName i)) : GD X T [i] (.Name x pos) (gN i) := by
  refine ⟨pg_of h ?_⟩
  rintro v σ H Q ⟨G, S, rho, d, Phi, rfl, rel, r, w, fin⟩
  exact fin _ S _ w (Step.refl S) (rel.set r) Wip.set
def gsN : List D → Rho → List D → (Rho → List D → Prop) → Prop := fun ds rho M Phi => ds = [] ∧ Phi rho M
def gsC (g : TDg) (gs : List D → Rho → List D → (Rho → List D → Prop) → Prop) : List D → Rho → List D → (Rho → List D → Prop) → Prop := fun ds rho M Phi => match ds with
  | [] => False
  | d :: r => g d rho M fun rho1 M1 => gs r rho1 M1 Phi
theorem gds_nil : GDs X T [] [] gsN := by
  refine ⟨pgs_of pgs_nil ?_⟩
  rintro v σ H Q ⟨G, S, rho, ds, Phi, rfl, rel, r, ⟨rfl, w⟩, fin⟩
  cases r
  exact ⟨rfl, fin _ S _ w (Step.refl S) rel Wip.refl⟩
theorem gds_cons {is js : List Nat} {t : Expr} {ts : List Expr} {g : TDg} {gs : List D → Rho → List D → (Rho → List D → Prop) → Prop} (h1 : GD X T is t g) (h2 : GDs X T js ts gs)
    (hs : (assignEach (t :: ts) X.env).map (·.2) = assign t X.env :: (assignEach ts X.env).map (·.2) := by rfl) : GDs X T (is ++ js) (t :: ts) (gsC g gs) := by
  refine ⟨pgs_of (pgs_cons h1.run h2.run hs) ?_⟩
  rintro v σ H Q ⟨G, S, rho, ds, Phi, rfl, rel, r, w, fin⟩
  cases r with
  | nil => exact w.elim
  | cons h r =>
    refine ⟨_, _, rfl, G, S, rho, _, _, rfl, rel, h, w, fun rho1 S1 σ1 w1 s1 rel1 u1 => ?_⟩
    exact ⟨G, S1, rho1, _, Phi, rfl, rel1, s1.rps r, w1, fun rho2 S2 σ2 w2 s2 rel2 u2 => fin rho2 S2 σ2 w2 (s1.trans s2) rel2 (u1.trans u2)⟩
def gT (n : Nat) (gs : List D → Rho → List D → (Rho → List D → Prop) → Prop) : TDg := fun d rho M Phi => match d with
  | .tup ds => ds.length = n ∧ gs ds rho M Phi
  | _ => False
theorem gd_tup {is : List Nat} {ts : List Expr} {k : Nat} {n : Nat} {gs : List D → Rho → List D → (Rho → List D → Prop) → Prop} (hc : X.calm = true) (h : GDs X T is ts gs)
    (hn : (assignEach ts X.env).length = n := by rfl) (hst : (assignEach ts X.env).findIdx? (·.1) = none := by rfl) : GD X T is (.Tuple ts k pos) (gT n gs) := by
  refine ⟨pg_of (pg_tup hc h.run hn hst) ?_⟩
  rintro v σ H Q ⟨G, S, rho, d, Phi, rfl, rel, r, w, fin⟩
  cases d with
  | tup ds =>
    obtain ⟨hl, w⟩ := w
    obtain ⟨p, vs, rfl, sq, rs, _⟩ := rp_tup r
    exact ⟨p, vs, rfl, sq, rs.len.trans hl, G, S, rho, ds, Phi, rfl, rel, rs, w, fin⟩
  | _ => exact w.elim
def wAsg (we : TDe) (g : TDg) : TDs := fun xc F rho M => we xc rho M fun d M1 => g d rho M1 fun rho2 M2 => F.nx rho2 M2
theorem sd_asg {is : List Nat} {tg : Expr} {g : TDg} (he : ED X T W e we) (hg : GD X T is tg g) (hs : swapsWithSole [tg] e pos.line X.env = pure false := by rfl) (hw : swappedStores [tg] e X.env = pure none := by rfl)
    (h1 : (assignEach [tg] X.env).map (·.2) = [assign tg X.env] := by rfl) : SD X T W (.Assign [tg] e pos) (wAsg we g) := by
  refine ⟨ps_of (ps_asg he.run hg.run hs hw h1) ?_⟩
  rintro Dn σ H ⟨G, S, rho, xc, F, rfl, rel, ge, w, ends⟩
  refine ⟨G, S, rho, xc, _, rfl, rel, ge, w, fun d S1 v w1 s1 rel1 r1 => ?_⟩
  exact ⟨G, S1, rho, d, _, rfl, rel1, r1, w1, fun rho2 S2 σ2 w2 s2 rel2 _ => ends.nx S2 rho2 σ2 w2 rel2⟩
/-- name = e -/
def wSet (i : Nat) (we : TDe) : TDs := fun xc F rho M => we xc rho M fun d M1 => F.nx (rho.set i (some d)) M1
theorem sd_set {i : Nat} {x : Str} {p2 : Pos} (hN : X.N.Nodup) (hi : X.N[i]? = some x) (hx : Loc X.env.scope x) (he : ED X T W e we) (hs : swapsWith e (some (.Name x p2)) pos.line X.env = pure false := by rfl)
    (hf : X.fn x = true ∨ X.env.scope.names.lookup x = some .local := by first | exact .inl rfl | exact .inr rfl | assumption) : SD X T W (.Assign [.Name x p2] e pos) (wSet i we) := by
  refine ⟨ps_of (ps_set hN hi hx he.run hs hf) ?_⟩
  rintro Dn σ H ⟨G, S, rho, xc, F, rfl, rel, ge, w, ends⟩
  exact ⟨G, S, rho, xc, _, rfl, rel, ge, w, fun d S1 v w1 s1 rel1 r1 => ends.nx S1 _ _ w1 (rel1.set r1)⟩
/-- name = a new thing, that may change -/
def wNew (i : Nat) (we : TDe) : TDs := fun xc F rho M => we xc rho M fun d M1 => F.nx (rho.set i (some (.loc M1.length))) (M1 ++ [d])
theorem sd_new {i : Nat} {x : Str} {p2 : Pos} (hN : X.N.Nodup) (hi : X.N[i]? = some x) (hx : Loc X.env.scope x) (he : EN X T W e we) (hs : swapsWith e (some (.Name x p2)) pos.line X.env = pure false := by rfl)
    (hf : X.fn x = true ∨ X.env.scope.names.lookup x = some .local := by first | exact .inl rfl | exact .inr rfl | assumption) : SD X T W (.Assign [.Name x p2] e pos) (wNew i we) := by
  refine ⟨ps_of (ps_set hN hi hx he.run hs hf) ?_⟩
  rintro Dn σ H ⟨G, S, rho, xc, F, rfl, rel, ge, w, ends⟩
  refine ⟨G, S, rho, xc, _, rfl, rel, ge, w, fun d S1 a o w1 s1 rel1 ha c => ?_⟩
  have s2 : Step S1 (S1.add a o d) := Step.add ha
  have rel2 : Rel X.K T G (S1.add a o d) rho σ := rel1.step' s2 (rel1.ok.add ha c)
  have em : (S1.add a o d).mu S1.M.length = a := if_pos rfl
  have lt : S1.M.length < (S1.add a o d).M.length := by
    show S1.M.length < (S1.M ++ [d]).length
    rw [List.length_append, List.length_singleton]
    exact Nat.lt_succ_self _
  have rr : R X.K G.O0 (S1.add a o d) (.ref a) (.loc S1.M.length) := by
    have q : R X.K G.O0 (S1.add a o d) (.ref ((S1.add a o d).mu S1.M.length)) (.loc S1.M.length) := .loc lt
    rw [em] at q
    exact q
  exact ends.nx (S1.add a o d) _ _ w1 (rel2.set rr)
/-- name op= e -/
def wAug (i : Nat) (f : Op2) (we : TDe) : TDs := fun xc F rho M => match rho[i]? with
  | some (some a) => we xc rho M fun b M1 => f M1 a b fun d => F.nx (rho.set i (some d)) M1
  | _ => False
theorem sd_aug {i : Nat} {x : Str} {op : Operator} {r : R2} {f : Op2} {p2 : Pos} (ho : OpR X (inplaceOp op) r) (hd : OpD X.K r f) (hN : X.N.Nodup) (hi : X.N[i]? = some x) (hx : Loc X.env.scope x) (he : ED X T W e we)
    (hf : X.fn x = true ∨ X.env.scope.names.lookup x = some .local := by first | exact .inl rfl | exact .inr rfl | assumption) : SD X T W (.AugAssign (.Name x p2) op e pos) (wAug i f we) := by
  have hp : PIp X op r := fun pins s σ H x y v u Q I r1 r2 h => ho pins s σ H x y v u Q I r1 r2 h
  refine ⟨ps_of (ps_aug hN hi hx he.run hp hf) ?_⟩
  rintro Dn σ H ⟨G, S, rho, xc, F, rfl, rel, ge, w, ends⟩
  unfold wAug at w
  cases hr : rho[i]? with
  | none => rw [hr] at w; exact w.elim
  | some o =>
    rw [hr] at w
    cases o with
    | none => exact w.elim
    | some d0 =>
      obtain ⟨x0, e1, r0⟩ := rel.slots.get i d0 hr
      refine ⟨x0, e1, G, S, rho, xc, _, rfl, rel, ge, w, fun b S1 y w1 s1 rel1 r1 => ?_⟩
      refine hd G.O0 T S1 x0 y d0 b _ _ rel1.ok (s1.rp r0) r1 w1 fun d S3 v p eM s3 ok3 r3 => ?_
      exact ends.nx S3 _ _ (by rw [eM]; exact p) ((rel1.step' s3 ok3).set r3)
end
end DL

namespace DL
open PySem L2
section
variable {K : PySem.W.Frag} {X : Cx}
/-! ### whole numbers -/
def oII (C : Int → Int → Prop) (h : Int → Int → D) : Op2 := fun _ a b Psi => match a, b with
  | .int i, .int j => C i j ∧ Psi (h i j)
  | _, _ => False
theorem od_II {C : Int → Int → Prop} {g : Int → Int → V} {h : Int → Int → D} (r : ∀ i j K H O mu n, Rp K H O mu n (g i j) (h i j)) : OpD K (rI C g) (oII C h) := by
  intro O0 T S x y a b Psi Q ok ra rb w fin
  cases a <;> first | exact w.elim | skip
  cases b <;> first | exact w.elim | skip
  obtain ⟨c, p⟩ := w
  exact ⟨_, _, rp_int ra, rp_int rb, c, fin _ S _ p rfl (Step.refl S) ok (r _ _ _ _ _ _ _)⟩
def oI0 (h : Int → Int → D) : Op2 := fun _ a b Psi => match a, b with
  | .int i, .int j => Psi (h i j)
  | _, _ => False
theorem od_I0 {g : Int → Int → V} {h : Int → Int → D} (r : ∀ i j K H O mu n, Rp K H O mu n (g i j) (h i j)) : OpD K (rI0 g) (oI0 h) := by
  intro O0 T S x y a b Psi Q ok ra rb w fin
  cases a <;> first | exact w.elim | skip
  cases b <;> first | exact w.elim | skip
  exact ⟨_, _, rp_int ra, rp_int rb, fin _ S _ w rfl (Step.refl S) ok (r _ _ _ _ _ _ _)⟩
abbrev oSub : Op2 := oI0 fun i j => .int (i - j)
abbrev oMul : Op2 := oII CMul fun i j => .int (i * j)
abbrev oDiv : Op2 := oII CDivN fun i j => .int (i.fdiv j)
abbrev oMod : Op2 := oII (fun _ j => j ≠ 0) fun i j => .int (i.fmod j)
abbrev oPow : Op2 := oII CPow fun i j => .int (i ^ j.toNat)
abbrev oLt : Op2 := oI0 fun i j => .bl (decide (i < j))
abbrev oLe : Op2 := oI0 fun i j => .bl (decide (i ≤ j))
abbrev oGt : Op2 := oI0 fun i j => .bl (decide (j < i))
abbrev oGe : Op2 := oI0 fun i j => .bl (decide (j ≤ i))
theorem od_sub : OpD K (rI0 fun i j => V.int (i - j)) oSub := od_I0 fun _ _ _ _ _ _ _ => .int _
theorem od_mul : OpD K (rI CMul fun i j => V.int (i * j)) oMul := od_II fun _ _ _ _ _ _ _ => .int _
theorem od_div : OpD K (rI CDivN fun i j => V.int (i.fdiv j)) oDiv := od_II fun _ _ _ _ _ _ _ => .int _
theorem od_mod : OpD K (rI (fun _ j => j ≠ 0) fun i j => V.int (i.fmod j)) oMod := od_II fun _ _ _ _ _ _ _ => .int _
theorem od_pow : OpD K (rI CPow fun i j => V.int (i ^ j.toNat)) oPow := od_II fun _ _ _ _ _ _ _ => .int _
theorem od_lt : OpD K (rI0 fun i j => V.bl (decide (i < j))) oLt := od_I0 fun _ _ _ _ _ _ _ => .bl _
theorem od_le : OpD K (rI0 fun i j => V.bl (decide (i ≤ j))) oLe := od_I0 fun _ _ _ _ _ _ _ => .bl _
theorem od_gt : OpD K (rI0 fun i j => V.bl (decide (j < i))) oGt := od_I0 fun _ _ _ _ _ _ _ => .bl _
theorem od_ge : OpD K (rI0 fun i j => V.bl (decide (j ≤ i))) oGe := od_I0 fun _ _ _ _ _ _ _ => .bl _
def oNeg : Op1 := fun _ a Psi => isI (fun i => Psi (.int (-i))) a
theorem od_neg : OpD1 K (rU fun i => V.int (-i)) oNeg := by
  intro O0 T S x a Psi Q ok ra w fin
  obtain ⟨i, rfl, p⟩ := isI_some w
  exact ⟨i, rp_int ra, fin _ S _ p rfl (Step.refl S) ok (.int _)⟩

/-! ### + -/
def rCatS (K : PySem.W.Frag) : R2 := fun x y H Q => ∃ l b xs zs, x = .ref l ∧ y = .ref b ∧ SqL K H l xs ∧ SqL K H b zs ∧ xs.length + zs.length ≤ sizeLine ∧ ∀ p, H p = none → Q (.ref p) (upd H p (.lst (xs ++ zs)))
theorem op_catS : OpR X (binaryOp .Add) (rCatS X.K) := by
  intro pins s σ H x y v u Q I rx ry h
  obtain ⟨l, b, xs, zs, rfl, rfl, hl, hb, hz, q⟩ := h
  cases rx
  cases ry
  obtain ⟨us, ru, ⟨⟨c1, d1, da1, sl1⟩, n1, g1, e1, e2, e3⟩, z1⟩ := I.list hl
  obtain ⟨ws, rw', ⟨⟨c2, d2, da2, sl2⟩, n2, g2, f1, f2, f3⟩, z2⟩ := I.list hb
  simp only at e1 e3 f1 f3
  subst e1 e3 f1 f3
  have lu := ru.length
  have lw := rw'.length
  have ea : us.toArray ++ ws.toArray = (us ++ ws).toArray := by simp
  refine concat_meets ⟨_, g1, rfl⟩ ⟨_, g2, rfl⟩ noFill_list_add seq_list_add PySem.F.slot_list_add PySem.F.entry_list_add (PySem.F.args_list_add_2 _ _)
    (PyProof.Rows.list_addW l b us.toArray ws.toArray n1 n2 d1 d2 sl1 sl2 (by simp only [List.size_toArray]; omega)) ⟨g1, g2, ?_⟩
  rw [ea]
  exact ⟨.ref _, _, I.lnew (t' := s.toks) (ru.append rw') (by rw [List.length_append]; exact hz), rfl, q _ I.fresh⟩
def oAdd : Op2 := fun M a b Psi => match a, b with
  | .int i, .int j => Psi (.int (i + j))
  | .tup xs, .tup ys => xs.length + ys.length ≤ sizeLine ∧ Psi (.tup (xs ++ ys))
  | .str x, .str y => x.length + y.length ≤ sizeLine ∧ Psi (.str (x ++ y))
  | a, b => match lstOf M a, lstOf M b with
    | some xs, some ys => xs.length + ys.length ≤ sizeLine ∧ Psi (.lst (xs ++ ys))
    | _, _ => False
def rAddS : R2 := fun x y H Q => ∃ i j, x = .str i ∧ y = .str j ∧ i.length + j.length ≤ sizeLine ∧ Q (.str (i ++ j)) H
def rAny (K : PySem.W.Frag) : R2 := fun x y H Q => ((rI0 fun i j => V.int (i + j)) x y H Q ∨ rCatA K x y H Q) ∨ rAddS x y H Q ∨ rCatS K x y H Q
theorem op_any : OpR X (binaryOp .Add) (rAny X.K) := (op_add.or op_catA).or ((show OpR X (binaryOp .Add) rAddS from op_add_str).or op_catS)
theorem od_cat {O0 : Av} {T : TabT} {S : Sto} {x y : V} {a b : D} {Psi : D → Prop} {Q : VK} (ok : SOk K O0 T S) (ra : R K O0 S x a) (rb : R K O0 S y b)
    (w : match lstOf S.M a, lstOf S.M b with
      | some xs, some ys => xs.length + ys.length ≤ sizeLine ∧ Psi (.lst (xs ++ ys))
      | _, _ => False)
    (fin : ∀ d S' v, Psi d → S'.M = S.M → Step S S' → SOk K O0 T S' → R K O0 S' v d → Q v S'.H) : rCatS K x y S.H Q := by
  cases ha : lstOf S.M a with
  | none => rw [ha] at w; exact w.elim
  | some xs =>
    cases hb : lstOf S.M b with
    | none => rw [ha, hb] at w; exact w.elim
    | some ys =>
      rw [ha, hb] at w
      obtain ⟨p, vs, rfl, sq, rs, _⟩ := r_lst ok ra ha
      obtain ⟨p2, vs2, rfl, sq2, rs2, _⟩ := r_lst ok rb hb
      refine ⟨p, p2, vs, vs2, rfl, rfl, sq, sq2, by rw [rs.len, rs2.len]; exact w.1, fun l hl => ?_⟩
      have s2 : Step S (S.lay l (.lst (vs ++ vs2))) := Step.lay hl
      exact fin _ (S.lay l (.lst (vs ++ vs2))) _ w.2 rfl s2 (ok.lay hl) (.lst (.inl ⟨notO_of_free (S := S) ok hl, .inl upd_same⟩) (by rw [List.length_append]; exact w.1) (s2.rps (rs.append rs2)))
theorem od_add : OpD K (rAny K) oAdd := by
  intro O0 T S x y a b Psi Q ok ra rb w fin
  have lists : (match lstOf S.M a, lstOf S.M b with
      | some xs, some ys => xs.length + ys.length ≤ sizeLine ∧ Psi (.lst (xs ++ ys))
      | _, _ => False) → rAny K x y S.H Q := fun w => .inr (.inr (od_cat ok ra rb w fin))
  cases a with
  | int i =>
    cases b with
    | int j => exact .inl (.inl ⟨i, j, rp_int ra, rp_int rb, fin _ S _ w rfl (Step.refl S) ok (.int _)⟩)
    | _ => exact lists w
  | str i =>
    cases b with
    | str j => exact .inr (.inl ⟨i, j, rp_str ra, rp_str rb, w.1, fin _ S _ w.2 rfl (Step.refl S) ok (.str _)⟩)
    | _ => exact lists w
  | tup xs =>
    cases b with
    | tup ys =>
      obtain ⟨p, vs, rfl, sq, rs, _⟩ := rp_tup ra
      obtain ⟨p2, vs2, rfl, sq2, rs2, _⟩ := rp_tup rb
      refine .inl (.inr ⟨p, p2, vs, vs2, rfl, rfl, sq, sq2, by rw [rs.len, rs2.len]; exact w.1, fun e => ?_, fun _ e => ?_, fun _ _ l hl => ?_⟩)
      · subst e
        cases rs
        exact fin _ S _ w.2 rfl (Step.refl S) ok rb
      · subst e
        cases rs2
        have w2 := w.2
        rw [List.append_nil] at w2
        exact fin _ S _ w2 rfl (Step.refl S) ok ra
      · have s2 : Step S (S.lay l (.tup (vs ++ vs2))) := Step.lay hl
        exact fin _ (S.lay l (.tup (vs ++ vs2))) _ w.2 rfl s2 (ok.lay hl) (.tup (.inl ⟨notO_of_free (S := S) ok hl, upd_same⟩) (by rw [List.length_append]; exact w.1) (s2.rps (rs.append rs2)))
    | _ => exact lists w
  | _ => exact lists w

/-! ### items, slices, lengths -/
def seqOf (M : List D) (d : D) : Option (List D) := match tupOf d with
  | some xs => some xs
  | none => lstOf M d
def seqO (M : List D) (d : D) : Option (List D) := match tupO d with
  | some xs => some xs
  | none => lstOf M d
theorem r_seq {O0 : Av} {T : TabT} {S : Sto} {x : V} {a : D} {ds : List D} (ok : SOk K O0 T S) (r : R K O0 S x a) (h : seqOf S.M a = some ds) : ∃ p vs, x = .ref p ∧ (SqL K S.H p vs ∨ SqT K S.H p vs) ∧ Rs K O0 S vs ds ∧ ds.length ≤ sizeLine := by
  unfold seqOf at h
  cases ht : tupOf a with
  | some xs =>
    rw [ht] at h
    have e := Option.some.inj h
    subst e
    obtain ⟨p, vs, e, sq, rs⟩ := r_tup r ht
    exact ⟨p, vs, e, .inr sq, rs⟩
  | none =>
    rw [ht] at h
    obtain ⟨p, vs, e, sq, rs⟩ := r_lst ok r h
    exact ⟨p, vs, e, .inl sq, rs⟩
def optP (o : Option D) (Psi : D → Prop) : Prop := match o with
  | some d => Psi d
  | none => False
def oIx : Op2 := fun M a b Psi => isI (fun i => match seqOf M a with
  | some ds => optP (atI ds i) Psi
  | none => match a with
    | .str z => z.length ≤ sizeLine ∧ ∃ c, atI z.cps.toList i = some c ∧ Psi (.str ⟨#[c]⟩)
    | _ => False) b
theorem od_ix : OpD K (rIx K) oIx := by
  intro O0 T S x y a b Psi Q ok ra rb w fin
  obtain ⟨i, ei, w'⟩ := isI_some w
  subst ei
  clear w
  have w := w'
  clear w'
  cases hs : seqOf S.M a with
  | some ds =>
    rw [hs] at w
    obtain ⟨p, vs, rfl, sq, rs, _⟩ := r_seq ok ra hs
    dsimp only at w
    cases ha : atI ds i with
    | none => rw [ha] at w; exact w.elim
    | some d =>
      rw [ha] at w
      obtain ⟨v, e, rv⟩ := rs.ixI ha
      have q := fin d S v w rfl (Step.refl S) ok rv
      rcases sq with sq | sq
      · exact .inl ⟨p, vs, i, v, rfl, rp_int rb, sq, e, q⟩
      · exact .inr (.inl ⟨p, vs, i, v, rfl, rp_int rb, sq, e, q⟩)
  | none =>
    rw [hs] at w
    cases a with
    | str z =>
      obtain ⟨hz, c, hc, p⟩ := w
      exact .inr (.inr ⟨z, i, c, rp_str ra, rp_int rb, hz, hc, fin _ S _ p rfl (Step.refl S) ok (.str _)⟩)
    | _ => exact w.elim
def cutD (ds : List D) (lo hi : Option Int) : List D := (ds.drop (HT.sIx ds.length 0 lo)).take (HT.sIx ds.length ds.length hi - HT.sIx ds.length 0 lo)
theorem cutD_len (ds : List D) (lo hi : Option Int) : (cutD ds lo hi).length ≤ ds.length := by
  unfold cutD
  rw [List.length_take, List.length_drop]
  omega
theorem Rps.cut {H : Hp} {O : Av} {mu : Nat → Addr} {n : Nat} {vs : List V} {ds : List D} (r : Rps K H O mu n vs ds) (lo hi : Option Int) : Rps K H O mu n (cutV vs lo hi) (cutD ds lo hi) := by
  unfold cutV cutD
  rw [r.len]
  exact (r.drop _).take _
def oSl : OpS := fun M a lo hi Psi => match tupO a with
  | some ds => Psi (.tup (cutD ds lo hi))
  | none => match lstOf M a with
    | some ds => Psi (.lst (cutD ds lo hi))
    | none => False
def rSl (K : PySem.W.Frag) : V → Option Int → Option Int → Hp → VK → Prop := fun x lo hi H Q => rSlA K x lo hi H Q ∨ rSlL K x lo hi H Q
theorem sl_any : SlR X (rSl X.K) := sl_tupA.or sl_list
theorem od_sl : OpDS K (rSl K) oSl := by
  intro O0 T S x a lo hi Psi Q ok ra w fin
  unfold oSl at w
  cases ht : tupO a with
  | some ds =>
    rw [ht] at w
    obtain ⟨p, vs, rfl, sq, rs, hlen⟩ := r_tupO ra ht
    refine .inl ⟨p, vs, rfl, sq, fun e => ?_, fun _ l hl => ?_⟩
    · have w : Psi (.tup (cutD ds lo hi)) := w
      have e2 : cutD ds lo hi = ds := by
        unfold cutD
        rw [← rs.len, e.1, e.2, Nat.sub_zero, List.drop_zero, rs.len, List.take_length]
      have w' : Psi (.tup ds) := by rw [e2] at w; exact w
      cases a with
      | tup ds' =>
        have e3 : ds' = ds := Option.some.inj ht
        subst e3
        exact fin _ S _ w' rfl (Step.refl S) ok ra
      | _ => cases ht
    · have s2 : Step S (S.lay l (.tup (cutV vs lo hi))) := Step.lay hl
      exact fin _ (S.lay l (.tup (cutV vs lo hi))) _ w rfl s2 (ok.lay hl) (.tup (.inl ⟨notO_of_free (S := S) ok hl, upd_same⟩) (Nat.le_trans (cutD_len ds lo hi) hlen) (s2.rps (rs.cut lo hi)))
  | none =>
    rw [ht] at w
    cases hs : lstOf S.M a with
    | none => rw [hs] at w; exact w.elim
    | some ds =>
      rw [hs] at w
      obtain ⟨p, vs, rfl, sq, rs, hlen⟩ := r_lst ok ra hs
      refine .inr ⟨p, vs, rfl, sq, fun l hl => ?_⟩
      have s2 : Step S (S.lay l (.lst (cutV vs lo hi))) := Step.lay hl
      exact fin _ (S.lay l (.lst (cutV vs lo hi))) _ w rfl s2 (ok.lay hl) (.lst (.inl ⟨notO_of_free (S := S) ok hl, .inl upd_same⟩) (Nat.le_trans (cutD_len ds lo hi) hlen) (s2.rps (rs.cut lo hi)))
/-- one argument -/
def arg1 (f : List D → D → (D → Prop) → Prop) : OpA := fun M as Psi => match as with
  | [a] => f M a Psi
  | _ => False
def arg2 (f : List D → D → D → (D → Prop) → Prop) : OpA := fun M as Psi => match as with
  | [a, b] => f M a b Psi
  | _ => False
theorem rs1 {O0 : Av} {S : Sto} {xs : List V} {a : D} (r : Rs K O0 S xs [a]) : ∃ x, xs = [x] ∧ R K O0 S x a := by
  cases r with
  | cons h r => cases r; exact ⟨_, rfl, h⟩
theorem rs2 {O0 : Av} {S : Sto} {xs : List V} {a b : D} (r : Rs K O0 S xs [a, b]) : ∃ x y, xs = [x, y] ∧ R K O0 S x a ∧ R K O0 S y b := by
  cases r with
  | cons h r =>
    obtain ⟨y, e, r⟩ := rs1 r
    exact ⟨_, y, by rw [e], h, r⟩
theorem arg1_some {f : List D → D → (D → Prop) → Prop} {M : List D} {as : List D} {Psi : D → Prop} (h : arg1 f M as Psi) : ∃ a, as = [a] ∧ f M a Psi := by
  unfold arg1 at h
  split at h
  · exact ⟨_, rfl, h⟩
  · exact h.elim
theorem arg2_some {f : List D → D → D → (D → Prop) → Prop} {M : List D} {as : List D} {Psi : D → Prop} (h : arg2 f M as Psi) : ∃ a b, as = [a, b] ∧ f M a b Psi := by
  unfold arg2 at h
  split at h
  · exact ⟨_, _, rfl, h⟩
  · exact h.elim
def oLen : OpA := arg1 fun M a Psi => match seqOf M a with
  | some ds => ds.length ≤ sizeLine → Psi (.int ds.length)
  | none => match a with
    | .str z => z.length ≤ sizeLine ∧ Psi (.int z.length)
    | _ => False
theorem od_len : OpDA K (fun xs H Q => ∃ x n, xs = [x] ∧ LenV K x H n ∧ Q (.int n) H) oLen := by
  intro O0 T S xs as Psi Q ok rs w fin
  obtain ⟨a, ea, w'⟩ := arg1_some w
  subst ea
  clear w
  have w := w'
  clear w'
  obtain ⟨x, rfl, ra⟩ := rs1 rs
  cases hs : seqOf S.M a with
  | some ds =>
    rw [hs] at w
    obtain ⟨p, vs, rfl, sq, rr, hlen⟩ := r_seq ok ra hs
    refine ⟨_, ds.length, rfl, ?_, fin _ S _ (w hlen) rfl (Step.refl S) ok (.int _)⟩
    rcases sq with sq | sq
    · exact .inl ⟨vs, sq, rr.len.symm⟩
    · exact .inr ⟨vs, sq, rr.len.symm⟩
  | none =>
    rw [hs] at w
    cases a with
    | str z =>
      have e := rp_str ra
      subst e
      exact ⟨_, z.length, rfl, ⟨w.1, rfl⟩, fin _ S _ w.2 rfl (Step.refl S) ok (.int _)⟩
    | _ => exact w.elim
/-- the whole numbers of a list -/
def intsD : List D → Option (List Int)
  | [] => some []
  | .int i :: r => (intsD r).map (i :: ·)
  | _ => none
theorem intsD_map : ∀ ns : List Int, intsD (ns.map D.int) = some ns
  | [] => rfl
  | i :: ns => by show (intsD (ns.map D.int)).map (i :: ·) = _; rw [intsD_map ns]; rfl
theorem intsD_some : ∀ {ds : List D} {ns : List Int}, intsD ds = some ns → ds = ns.map D.int
  | [], ns, h => by cases h; rfl
  | d :: r, ns, h => by
    cases d with
    | int i =>
      have h' : (intsD r).map (i :: ·) = some ns := h
      cases e : intsD r with
      | none => rw [e] at h'; cases h'
      | some ms =>
        rw [e] at h'
        have e' := Option.some.inj h'
        rw [← e', intsD_some e]
        rfl
    | _ => cases h
def blsD : List D → Option (List Bool)
  | [] => some []
  | .bl i :: r => (blsD r).map (i :: ·)
  | _ => none
theorem blsD_map : ∀ ns : List Bool, blsD (ns.map D.bl) = some ns
  | [] => rfl
  | i :: ns => by show (blsD (ns.map D.bl)).map (i :: ·) = _; rw [blsD_map ns]; rfl
theorem blsD_some : ∀ {ds : List D} {ns : List Bool}, blsD ds = some ns → ds = ns.map D.bl
  | [], ns, h => by cases h; rfl
  | d :: r, ns, h => by
    cases d with
    | bl i =>
      have h' : (blsD r).map (i :: ·) = some ns := h
      cases e : blsD r with
      | none => rw [e] at h'; cases h'
      | some ms =>
        rw [e] at h'
        have e' := Option.some.inj h'
        rw [← e', blsD_some e]
        rfl
    | _ => cases h
/-- a list of whole numbers -/
def lstI (M : List D) (a : D) (f : List Int → Prop) : Prop := match lstOf M a with
  | some ds => match intsD ds with
    | some ns => f ns
    | none => False
  | none => False
def lstB (M : List D) (a : D) (f : List Bool → Prop) : Prop := match lstOf M a with
  | some ds => match blsD ds with
    | some ns => f ns
    | none => False
  | none => False
theorem lstI_some {O0 : Av} {T : TabT} {S : Sto} {x : V} {a : D} {f : List Int → Prop} (ok : SOk K O0 T S) (r : R K O0 S x a) (h : lstI S.M a f) : ∃ p ns, x = .ref p ∧ SqL K S.H p (ns.map V.int) ∧ f ns ∧ ns.length ≤ sizeLine := by
  unfold lstI at h
  cases hs : lstOf S.M a with
  | none => rw [hs] at h; exact h.elim
  | some ds =>
    rw [hs] at h
    dsimp only at h
    cases hi : intsD ds with
    | none => rw [hi] at h; exact h.elim
    | some ns =>
      rw [hi] at h
      obtain ⟨p, vs, rfl, sq, rs, hl⟩ := r_lst ok r hs
      rw [intsD_some hi] at rs hl
      rw [rs.ints] at sq
      exact ⟨p, ns, rfl, sq, h, by rw [List.length_map] at hl; exact hl⟩
theorem lstB_some {O0 : Av} {T : TabT} {S : Sto} {x : V} {a : D} {f : List Bool → Prop} (ok : SOk K O0 T S) (r : R K O0 S x a) (h : lstB S.M a f) : ∃ p ns, x = .ref p ∧ SqL K S.H p (ns.map V.bl) ∧ f ns := by
  unfold lstB at h
  cases hs : lstOf S.M a with
  | none => rw [hs] at h; exact h.elim
  | some ds =>
    rw [hs] at h
    dsimp only at h
    cases hi : blsD ds with
    | none => rw [hi] at h; exact h.elim
    | some ns =>
      rw [hi] at h
      obtain ⟨p, vs, rfl, sq, rs, _⟩ := r_lst ok r hs
      rw [blsD_some hi] at rs
      rw [rs.bls] at sq
      exact ⟨p, ns, rfl, sq, h⟩
def oSum : OpA := arg1 fun M a Psi => lstI M a fun ns => Psi (.int ns.sum)
theorem od_sum : OpDA K (rSum K) oSum := by
  intro O0 T S xs as Psi Q ok rs w fin
  obtain ⟨a, ea, w'⟩ := arg1_some w
  subst ea
  clear w
  have w := w'
  clear w'
  obtain ⟨x, rfl, ra⟩ := rs1 rs
  obtain ⟨p, ns, rfl, sq, w, hlen⟩ := lstI_some ok ra w
  exact ⟨p, ns, rfl, sq, fin _ S _ w rfl (Step.refl S) ok (.int _)⟩
def oAll : OpA := arg1 fun M a Psi => lstB M a fun ns => Psi (.bl (ns.all id))
theorem od_all : OpDA K (rAll K) oAll := by
  intro O0 T S xs as Psi Q ok rs w fin
  obtain ⟨a, ea, w'⟩ := arg1_some w
  subst ea
  clear w
  have w := w'
  clear w'
  obtain ⟨x, rfl, ra⟩ := rs1 rs
  obtain ⟨p, ns, rfl, sq, w⟩ := lstB_some ok ra w
  exact ⟨p, ns, rfl, sq, fin _ S _ w rfl (Step.refl S) ok (.bl _)⟩
def oAnyB : OpA := arg1 fun M a Psi => lstB M a fun ns => Psi (.bl (ns.any id))
theorem od_anyB : OpDA K (L2.rAny K) oAnyB := by
  intro O0 T S xs as Psi Q ok rs w fin
  obtain ⟨a, ea, w'⟩ := arg1_some w
  subst ea
  clear w
  have w := w'
  clear w'
  obtain ⟨x, rfl, ra⟩ := rs1 rs
  obtain ⟨p, ns, rfl, sq, w⟩ := lstB_some ok ra w
  exact ⟨p, ns, rfl, sq, fin _ S _ w rfl (Step.refl S) ok (.bl _)⟩
def oMax1 : OpA := arg1 fun M a Psi => lstI M a fun ns => 0 < ns.length ∧ ∀ m, m ∈ ns → (∀ y, y ∈ ns → y ≤ m) → Psi (.int m)
theorem od_max1 : OpDA K (rMax K) oMax1 := by
  intro O0 T S xs as Psi Q ok rs w fin
  obtain ⟨a, ea, w'⟩ := arg1_some w
  subst ea
  clear w
  have w := w'
  clear w'
  obtain ⟨x, rfl, ra⟩ := rs1 rs
  obtain ⟨p, ns, rfl, sq, ⟨h0, w⟩, hlen⟩ := lstI_some ok ra w
  exact ⟨p, ns, rfl, sq, h0, fun m h1 h2 => fin _ S _ (w m h1 h2) rfl (Step.refl S) ok (.int _)⟩
def oMin1 : OpA := arg1 fun M a Psi => lstI M a fun ns => 0 < ns.length ∧ ∀ m, m ∈ ns → (∀ y, y ∈ ns → m ≤ y) → Psi (.int m)
theorem od_min1 : OpDA K (rMin K) oMin1 := by
  intro O0 T S xs as Psi Q ok rs w fin
  obtain ⟨a, ea, w'⟩ := arg1_some w
  subst ea
  clear w
  have w := w'
  clear w'
  obtain ⟨x, rfl, ra⟩ := rs1 rs
  obtain ⟨p, ns, rfl, sq, ⟨h0, w⟩, hlen⟩ := lstI_some ok ra w
  exact ⟨p, ns, rfl, sq, h0, fun m h1 h2 => fin _ S _ (w m h1 h2) rfl (Step.refl S) ok (.int _)⟩
def int2 (g : Int → Int → Int) : OpA := arg2 fun _ a b Psi => match a, b with
  | .int i, .int j => Psi (.int (g i j))
  | _, _ => False
theorem int2_some {g : Int → Int → Int} {M : List D} {as : List D} {Psi : D → Prop} (h : int2 g M as Psi) : ∃ i j, as = [.int i, .int j] ∧ Psi (.int (g i j)) := by
  obtain ⟨a, b, rfl, h⟩ := arg2_some h
  cases a <;> first | exact h.elim | skip
  cases b <;> first | exact h.elim | skip
  exact ⟨_, _, rfl, h⟩
abbrev oMax2 : OpA := int2 fun i j => if j > i then j else i
abbrev oMin2 : OpA := int2 fun i j => if j < i then j else i
theorem od_int2 {g : Int → Int → Int} : OpDA K (fun xs H Q => ∃ i j, xs = [.int i, .int j] ∧ Q (.int (g i j)) H) (int2 g) := by
  intro O0 T S xs as Psi Q ok rs w fin
  obtain ⟨i, j, rfl, w⟩ := int2_some w
  obtain ⟨x, y, rfl, ra, rb⟩ := rs2 rs
  rw [rp_int ra, rp_int rb]
  exact ⟨i, j, rfl, fin _ S _ w rfl (Step.refl S) ok (.int _)⟩
def oAbs : OpA := arg1 fun _ a Psi => isI (fun i => Psi (.int (if i < 0 then -i else i))) a
theorem od_abs : OpDA K (fun xs H Q => ∃ i, xs = [.int i] ∧ Q (.int (if i < 0 then -i else i)) H) oAbs := by
  intro O0 T S xs as Psi Q ok rs w fin
  obtain ⟨a, ea, w'⟩ := arg1_some w
  subst ea
  clear w
  have w := w'
  clear w'
  obtain ⟨x, rfl, ra⟩ := rs1 rs
  obtain ⟨i, rfl, w⟩ := isI_some w
  rw [rp_int ra]
  exact ⟨i, rfl, fin _ S _ w rfl (Step.refl S) ok (.int _)⟩
def oInt : OpA := arg1 fun _ a Psi => isI (fun i => Psi (.int i)) a
theorem od_int : OpDA K (fun xs H Q => (∃ i, xs = [.int i] ∧ Q (.int i) H) ∨ ∃ k, xs = [.bl k] ∧ Q (.int (if k then 1 else 0)) H) oInt := by
  intro O0 T S xs as Psi Q ok rs w fin
  obtain ⟨a, ea, w'⟩ := arg1_some w
  subst ea
  clear w
  have w := w'
  clear w'
  obtain ⟨x, rfl, ra⟩ := rs1 rs
  obtain ⟨i, rfl, w⟩ := isI_some w
  rw [rp_int ra]
  exact .inl ⟨i, rfl, fin _ S _ w rfl (Step.refl S) ok (.int _)⟩
/-- tuple(xs) -/
def oTuple : OpA := arg1 fun M a Psi => match seqO M a with
  | some ds => Psi (.tup ds)
  | none => False
theorem od_tuple : OpDA K (fun xs H Q => ∃ p ys, xs = [.ref p] ∧ ((SqL K H p ys ∧ ∀ l, H l = none → Q (.ref l) (upd H l (.tup ys))) ∨ (SqT K H p ys ∧ Q (.ref p) H))) oTuple := by
  intro O0 T S xs as Psi Q ok rs w fin
  obtain ⟨a, ea, w'⟩ := arg1_some w
  subst ea
  clear w
  have w := w'
  clear w'
  obtain ⟨x, rfl, ra⟩ := rs1 rs
  unfold seqO at w
  cases ht : tupO a with
  | some ds =>
    rw [ht] at w
    cases a with
    | tup ds' =>
      have e3 : ds' = ds := Option.some.inj ht
      subst e3
      obtain ⟨p, vs, rfl, sq, rr, _⟩ := rp_tup ra
      exact ⟨p, vs, rfl, .inr ⟨sq, fin _ S _ w rfl (Step.refl S) ok ra⟩⟩
    | _ => cases ht
  | none =>
    rw [ht] at w
    cases hs : lstOf S.M a with
    | none => rw [hs] at w; exact w.elim
    | some ds =>
      rw [hs] at w
      obtain ⟨p, vs, rfl, sq, rr, hlen⟩ := r_lst ok ra hs
      refine ⟨p, vs, rfl, .inl ⟨sq, fun l hl => ?_⟩⟩
      have s2 : Step S (S.lay l (.tup vs)) := Step.lay hl
      exact fin _ (S.lay l (.tup vs)) _ w rfl s2 (ok.lay hl) (.tup (.inl ⟨notO_of_free (S := S) ok hl, upd_same⟩) hlen (s2.rps rr))
/-- list(xs) -/
def oList : OpA := arg1 fun M a Psi => match seqOf M a with
  | some ds => Psi (.lst ds)
  | none => False
theorem od_list : OpDN K (fun xs H Q => ∃ p ys, xs = [.ref p] ∧ (SqL K H p ys ∨ SqT K H p ys) ∧ ∀ l, H l = none → Q (.ref l) (upd H l (.lst ys))) oList := by
  intro O0 T S xs as Psi Q ok rs w fin
  obtain ⟨a, ea, w'⟩ := arg1_some w
  subst ea
  clear w
  have w := w'
  clear w'
  obtain ⟨x, rfl, ra⟩ := rs1 rs
  cases hs : seqOf S.M a with
  | none => rw [hs] at w; exact w.elim
  | some ds =>
    rw [hs] at w
    obtain ⟨p, vs, rfl, sq, rr, hlen⟩ := r_seq ok ra hs
    exact ⟨p, vs, rfl, sq, fun l hl => fin _ l _ w hl ⟨vs, rfl, hlen, rr⟩⟩
/-- sorted(xs) of whole numbers -/
def oSorted : OpA := arg1 fun M a Psi => lstI M a fun ns => ∀ ns' : List Int, ns'.Perm ns → ns'.Pairwise (· ≤ ·) → Psi (.lst (ns'.map D.int))
theorem od_sorted : OpDN K (rSortedI K) oSorted := by
  intro O0 T S xs as Psi Q ok rs w fin
  obtain ⟨a, ea, w'⟩ := arg1_some w
  subst ea
  clear w
  have w := w'
  clear w'
  obtain ⟨x, rfl, ra⟩ := rs1 rs
  obtain ⟨p, ns, rfl, sq, w, hlen⟩ := lstI_some ok ra w
  exact ⟨p, ns, rfl, sq, fun ns' q h1 h2 h3 => fin _ q _ (w ns' h1 h2) h3 ⟨_, rfl, by rw [List.length_map, h1.length_eq]; exact hlen, Rps.of_ints ns'⟩⟩
end
end DL

namespace DL
open PySem L2
/-! ### numbers below -/
mutual
def D.lt (m : Nat) : D → Bool
  | .tup xs => ltL m xs
  | .tpx xs => ltL m xs
  | .lst xs => ltL m xs
  | .ins _ fs => ltF m fs
  | .dct kvs => ltP m kvs
  | .loc k => decide (k < m)
  | _ => true
def ltL (m : Nat) : List D → Bool
  | [] => true
  | d :: r => D.lt m d && ltL m r
def ltF (m : Nat) : List (Str × D) → Bool
  | [] => true
  | (_, d) :: r => D.lt m d && ltF m r
def ltP (m : Nat) : List (D × D) → Bool
  | [] => true
  | (a, d) :: r => D.lt m a && D.lt m d && ltP m r
end
section
variable {K : PySem.W.Frag} {H : Hp} {O O' : Av} {mu : Nat → Addr} {n m : Nat}
theorem and_l {a b : Bool} (h : (a && b) = true) : a = true := (Bool.and_eq_true_iff.mp h).1
theorem and_r {a b : Bool} (h : (a && b) = true) : b = true := (Bool.and_eq_true_iff.mp h).2
mutual
theorem Rp.cut (hO : ∀ a, ¬ O a → ¬ O' a) : ∀ {v : V} {d : D}, Rp K H O mu n v d → d.lt m = true → Rp K H O' mu m v d
  | _, _, .non, _ => .non
  | _, _, .bl b, _ => .bl b
  | _, _, .int i, _ => .int i
  | _, _, .str x, _ => .str x
  | _, _, .tup h l r, q => .tup (h.imp (fun z => ⟨hO _ z.1, z.2⟩) id) l (Rps.cutL hO r (by rw [D.lt] at q; exact q))
  | _, _, .tpx h1 h2 hd l r, q => .tpx (hO _ h1) h2 hd l (Rps.cutL hO r (by rw [D.lt] at q; exact q))
  | _, _, .lst h l r, q => .lst (h.imp (fun z => ⟨hO _ z.1, z.2⟩) id) l (Rps.cutL hO r (by rw [D.lt] at q; exact q))
  | _, _, .ins h1 h2 r, q => .ins (hO _ h1) h2 (RpF.cutL hO r (by rw [D.lt] at q; exact q))
  | _, _, .dK h1 h2 r, q => .dK (hO _ h1) h2 (RpK.cutL hO r (by rw [D.lt] at q; exact q))
  | _, _, .dT h1 h2 r, q => .dT (hO _ h1) h2 (RpT.cutL hO r (by rw [D.lt, ltP] at q; exact and_r q))
  | _, _, .loc h, q => .loc (by rw [D.lt] at q; exact of_decide_eq_true q)
  | _, _, .adr a, _ => .adr a
  | _, _, .ty a, _ => .ty a
theorem Rps.cutL (hO : ∀ a, ¬ O a → ¬ O' a) : ∀ {v : List V} {d : List D}, Rps K H O mu n v d → ltL m d = true → Rps K H O' mu m v d
  | _, _, .nil, _ => .nil
  | _, _, .cons h r, q => .cons (Rp.cut hO h (and_l (by rw [ltL] at q; exact q))) (Rps.cutL hO r (and_r (by rw [ltL] at q; exact q)))
theorem RpF.cutL (hO : ∀ a, ¬ O a → ¬ O' a) : ∀ {v : List (Str × V)} {d : List (Str × D)}, RpF K H O mu n v d → ltF m d = true → RpF K H O' mu m v d
  | _, _, .nil, _ => .nil
  | _, _, .cons h r, q => .cons (Rp.cut hO h (and_l (by rw [ltF] at q; exact q))) (RpF.cutL hO r (and_r (by rw [ltF] at q; exact q)))
theorem RpK.cutL (hO : ∀ a, ¬ O a → ¬ O' a) : ∀ {v : List (Key × V)} {d : List (D × D)}, RpK K H O mu n v d → ltP m d = true → RpK K H O' mu m v d
  | _, _, .nil, _ => .nil
  | _, _, .cons h r, q => .cons (Rp.cut hO h (and_r (and_l (by rw [ltP] at q; exact q)))) (RpK.cutL hO r (and_r (by rw [ltP] at q; exact q)))
theorem RpT.cutL (hO : ∀ a, ¬ O a → ¬ O' a) : ∀ {v : List (List Key × V)} {d : List (D × D)}, RpT K H O mu n v d → ltP m d = true → RpT K H O' mu m v d
  | _, _, .nil, _ => .nil
  | _, _, .cons h r, q => .cons (Rp.cut hO h (and_r (and_l (by rw [ltP] at q; exact q)))) (RpT.cutL hO r (and_r (by rw [ltP] at q; exact q)))
end
theorem Con.cut {o : HO} {d : D} (hO : ∀ a, ¬ O a → ¬ O' a) (h : Con K H O mu n o d) (q : d.lt m = true) : Con K H O' mu m o d := by
  cases d with
  | lst ds => obtain ⟨vs, e, l, r⟩ := h; exact ⟨vs, e, l, r.cutL hO (by rw [D.lt] at q; exact q)⟩
  | ins C fs => obtain ⟨dx, fvs, e, r⟩ := h; exact ⟨dx, fvs, e, r.cutL hO (by rw [D.lt] at q; exact q)⟩
  | dct ds =>
    rcases h with ⟨vs, e, r⟩ | ⟨vs, es, e, e2, r⟩
    · exact .inl ⟨vs, e, r.cutL hO (by rw [D.lt] at q; exact q)⟩
    · subst e2; exact .inr ⟨vs, es, e, rfl, r.cutL hO (by rw [D.lt, ltP] at q; exact and_r q)⟩
  | non => exact h.elim
  | bl b => exact h.elim
  | int i => exact h.elim
  | str x => exact h.elim
  | tup ds => exact h.elim
  | tpx ds => exact h.elim
  | loc k => exact h.elim
  | adr k => exact h.elim
  | ty k => exact h.elim
end

/-! ### what a def promises, by data -/
structure FinC where
  rt : D → List D → Prop
  xc : Exn → List D → Prop := fun _ _ => False
abbrev PD := List D → List D → FinC → Prop
def spD (K : PySem.W.Frag) (T : TabT) (P : PD) : Sp := fun vs H Q E => ∃ O0 S ds F, S.H = H ∧ SOk K O0 T S ∧ Rs K O0 S vs ds ∧ P ds S.M F ∧
  (∀ d S' v, F.rt d S'.M → Step S S' → SOk K O0 T S' → R K O0 S' v d → Q v S'.H) ∧
  (∀ x S' cls dx, F.xc x S'.M → Step S S' → SOk K O0 T S' → XRep K O0 S' x cls dx → E cls dx S'.H)

/-- the store cut at m -/
def Sto.cut (S : Sto) (m : Nat) : Sto := ⟨S.H, S.mu, S.M.take m⟩
section
variable {K : PySem.W.Frag} {O0 : Av} {T : TabT} {S S0 : Sto} {m : Nat}
theorem cut_len (h : m ≤ S.M.length) : (S.cut m).M.length = m := by show (S.M.take m).length = m; rw [List.length_take]; omega
theorem cut_out (h : m ≤ S.M.length) : ∀ a, ¬ S.O O0 a → ¬ (S.cut m).O O0 a := fun a n q => by
  rcases q with q | ⟨k, hk, e⟩
  · exact n (.inl q)
  · rw [cut_len h] at hk
    exact n (.inr ⟨k, Nat.lt_of_lt_of_le hk h, e⟩)
theorem SOk.cut (ok : SOk K O0 T S) (h : m ≤ S.M.length) (q : ltL m (S.M.take m) = true) : SOk K O0 T (S.cut m) := by
  have all : ∀ {l : List D} {k : Nat} {d : D}, ltL m l = true → l[k]? = some d → d.lt m = true := by
    intro l
    induction l with
    | nil => intro k d _ e; cases e
    | cons c r ih =>
      intro k d q e
      rw [ltL] at q
      cases k with
      | zero => have e' := Option.some.inj e; subst e'; exact and_l q
      | succ k => exact ih (and_r q) (by simpa using e)
  refine ⟨fun k d e => ?_, fun i j hi hj => ?_, fun k hk => ?_, ok.dom, ok.tab⟩
  · have e' : (S.M.take m)[k]? = some d := e
    have hk : k < m := by
      have := (List.getElem?_eq_some_iff.mp e').1
      rw [List.length_take] at this
      omega
    have e2 : S.M[k]? = some d := by rw [List.getElem?_take] at e'; rw [if_pos hk] at e'; exact e'
    obtain ⟨o, h1, c⟩ := ok.obj k d e2
    refine ⟨o, h1, ?_⟩
    have c2 := c.cut (m := m) (cut_out h) (all q e')
    rw [cut_len h]
    exact c2
  · rw [cut_len h] at hi hj
    exact ok.inj i j (by omega) (by omega)
  · rw [cut_len h] at hk
    exact ok.out k (by omega)
theorem Step.cut (s : Step S0 S) (h : m ≤ S.M.length) (h0 : S0.M.length ≤ m) : Step S0 (S.cut m) where
  keep := s.keep
  dom := s.dom
  mu := s.mu
  le := by rw [cut_len h]; exact h0
  new := fun k h1 h2 => s.new k h1 (by rw [cut_len h] at h2; omega)
end
/-- what is handed back at the end: the things from m on are dropped, or read inline -/
inductive FrzR (m : Nat) (M : List D) : D → D → Prop
  | val {d : D} : d.lt m = true → FrzR m M d d
  | con {k : Nat} {c : D} : M[k]? = some c → m ≤ k → c.lt m = true → FrzR m M (.loc k) c
def RetD (n0 : Nat) (F : FinC) (d : D) (M : List D) : Prop := ∃ m d2, n0 ≤ m ∧ m ≤ M.length ∧ ltL m (M.take m) = true ∧ FrzR m M d d2 ∧ F.rt d2 (M.take m)
def RaiD (n0 : Nat) (F : FinC) (x : Exn) (M : List D) : Prop := ∃ m, n0 ≤ m ∧ m ≤ M.length ∧ ltL m (M.take m) = true ∧ (match x.2 with | none => True | some fs => ltF m fs = true) ∧ F.xc x (M.take m)
theorem FrzR.rp {K : PySem.W.Frag} {O0 : Av} {T : TabT} {S : Sto} {m : Nat} {d d2 : D} {v : V} (f : FrzR m S.M d d2) (ok : SOk K O0 T S) (h : m ≤ S.M.length) (r : R K O0 S v d) : R K O0 (S.cut m) v d2 := by
  have hl := cut_len h
  cases f with
  | val q =>
    have c := r.cut (m := m) (cut_out (O0 := O0) h) q
    show Rp K S.H ((S.cut m).O O0) S.mu (S.cut m).M.length v d
    rw [hl]
    exact c
  | @con k e h1 h2 q =>
    have hk := (List.getElem?_eq_some_iff.mp h1).1
    obtain ⟨o, e1, c⟩ := ok.obj k _ h1
    cases r with
    | loc hk2 =>
      have c2 := c.cut (m := m) (cut_out (O0 := O0) h) q
      show Rp K S.H ((S.cut m).O O0) S.mu (S.cut m).M.length (.ref (S.mu k)) d2
      rw [hl]
      refine c2.rp (Carry.mk (fun _ _ h _ _ => h) (fun _ _ _ h => h) (fun _ _ => rfl) (Nat.le_refl _)) e1 fun z => ?_
      rcases z with z | ⟨j, hj, ej⟩
      · exact ok.out k hk z
      · rw [hl] at hj
        have := ok.inj j k (by omega) hk ej
        omega
def finD (n0 : Nat) (F : FinC) : Fin := { nx := fun _ M => RetD n0 F .non M, rt := RetD n0 F }
def xcD (n0 : Nat) (F : FinC) : XC := fun x _ M => RaiD n0 F x M
abbrev WE0 (E : XK) : WX := fun cls d _ H => E cls d H
def startD (N : List Str) (ds : List D) : Rho := ds.map some ++ List.replicate (N.length - ds.length) none
theorem slots_start {K : PySem.W.Frag} {O0 : Av} {S : Sto} {N : List Str} {vs : List V} {ds : List D} (r : Rs K O0 S vs ds) : Slots K O0 S (startD N ds) (L2.start N vs) := by
  refine ⟨?_, fun i d e => ?_⟩
  · unfold startD L2.start
    simp [r.len]
  · unfold startD at e
    have hi : i < ds.length := by
      apply Classical.byContradiction
      intro hn
      rw [List.getElem?_append_right (by simpa using hn)] at e
      rw [List.getElem?_replicate] at e
      split at e
      · cases e
      · cases e
    rw [List.getElem?_append_left (by simpa using hi), List.getElem?_map] at e
    cases q : ds[i]? with
    | none => rw [q] at e; cases e
    | some d' =>
      rw [q] at e
      have e' := Option.some.inj (Option.some.inj e)
      subst e'
      obtain ⟨v, e1, r1⟩ := r.get q
      refine ⟨v, ?_, r1⟩
      unfold L2.start
      rw [List.getElem?_append_left (by rw [List.length_map, r.len]; exact hi), List.getElem?_map, e1]
      rfl
section
variable {P : Program} {w : World} {K : PySem.W.Frag} {mg : Str → Option Value} {base : Heap} {T : TabT}
/-- THE RULE for a def -/
theorem def_ok {x qual : Str} {st : Stmt} {f : Addr} {fd : FuncData} {N ps : List Str} {k : Nat} {PP : PD} {ww : TDs} (F : Fun K x qual st f fd) (S : FnScope N ps (defScope st)) (len : ∀ ds M Fc, PP ds M Fc → ds.length = ps.length)
    (hb : ∀ (cdv : Value) (A : Around) (outer : List Env) (s : Shared) (H : Hp) (E : XK), Room k (A.deeper (PyProof.Rows.envOfC qual (defScope st) s.heap.objs.size f cdv)) →
      SDs (cxOf (L2.CX P w) P w K mg base N qual (defScope st) f cdv A outer s H E) T (WE0 E) (defBody st) ww)
    (hw : ∀ ds M Fc, PP ds M Fc → ww (xcD M.length Fc) (finD M.length Fc) (startD N ds) M) : FnOk P w K mg base (L2.CX P w) (k + 1) f fd ps (spD K T PP) := by
  refine F.okX S (fun vs H Q E h => ?_) (fun cdv A outer s H vs Q E hr h => ?_)
  · obtain ⟨O0, S0, ds, Fc, rfl, ok, rs, p, _⟩ := h
    rw [rs.len]
    exact len _ _ _ p
  · obtain ⟨O0, S0, ds, Fc, rfl, ok, rs, p, h1, h2⟩ := h
    refine ⟨_, (hb cdv A outer s S0.H E hr).run, ⟨O0, S0⟩, S0, startD N ds, xcD S0.M.length Fc, finD S0.M.length Fc, rfl, ⟨ok, Step.refl S0, slots_start rs⟩, ?_, hw ds S0.M Fc p, ?_⟩
    · rintro x S rho σ cls dx ⟨m, m0, m1, m2, m3, m4⟩ rel xr
      have hl := cut_len m1
      refine h2 x (S.cut m) cls dx m4 (rel.step.cut m1 m0) (rel.ok.cut m1 m2) ?_
      obtain ⟨e1, e2⟩ := xr
      refine ⟨e1, ?_⟩
      obtain ⟨C, fs⟩ := x
      cases fs with
      | none => exact e2
      | some fs =>
        obtain ⟨a, fvs, e3, e4, r⟩ := e2
        refine ⟨a, fvs, e3, e4, ?_⟩
        have r2 := r.cutL (m := m) (cut_out (O0 := O0) m1) m3
        show RpF K S.H ((S.cut m).O O0) S.mu (S.cut m).M.length fvs fs
        rw [hl]
        exact r2
    · have fin : ∀ (S : Sto) (d : D) (v : V), RetD S0.M.length Fc d S.M → SOk K O0 T S → Step S0 S → R K O0 S v d → Q v S.H := by
        rintro S d v ⟨m, d2, m0, m1, m2, fz, p⟩ ok' st' r
        exact h1 d2 (S.cut m) v p (st'.cut m1 m0) (ok'.cut m1 m2) (fz.rp ok' m1 r)
      refine ⟨fun S rho σ q rel => ?_, fun S d v q ok' st' r => fin S d v q ok' st' r, fun S rho σ q rel => q.elim, fun S rho σ q rel => q.elim⟩
      exact fin S .non .non q rel.ok rel.step .non
end
/-- for a def that hands back a value without numbers, from an empty store -/
theorem ret0 {F : FinC} {d : D} {M : List D} (h : d.lt 0 = true) (k : F.rt d []) : RetD 0 F d M := ⟨0, d, Nat.le_refl _, Nat.zero_le _, by rw [List.take_zero, ltL], .val h, by rw [List.take_zero]; exact k⟩
theorem ret0c {F : FinC} {c : D} {j : Nat} {M : List D} (e : M[j]? = some c) (h : c.lt 0 = true) (k : F.rt c []) : RetD 0 F (.loc j) M := ⟨0, c, Nat.le_refl _, Nat.zero_le _, by rw [List.take_zero, ltL], .con e (Nat.zero_le _) h, by rw [List.take_zero]; exact k⟩
theorem rai0 {F : FinC} {x : Exn} {M : List D} (h : match x.2 with | none => True | some fs => ltF 0 fs = true) (k : F.xc x []) : RaiD 0 F x M := ⟨0, Nat.le_refl _, Nat.zero_le _, by rw [List.take_zero, ltL], h, by rw [List.take_zero]; exact k⟩

/-! ### calls that leave the store alone -/
def wCallP (P : PD) (wa : TDa) : TDe := fun xc rho M Phi => wa xc rho M fun ds M1 => (M1 = [] ∨ ltL 0 ds = true) ∧ P ds [] ⟨fun d _ => Phi d M1, fun x _ => xc x rho M1⟩
section
variable {K : PySem.W.Frag} {T : TabT}
theorem Rps.zero {O0 : Av} {S : Sto} {vs : List V} {ds : List D} (r : Rs K O0 S vs ds) (h : S.M = [] ∨ ltL 0 ds = true) {mu : Nat → Addr} : Rps K S.H (S.O O0) mu 0 vs ds := by
  rcases h with h | h
  · have e : S.M.length = 0 := by rw [h]; rfl
    have r' : Rps K S.H (S.O O0) S.mu 0 vs ds := by rw [← e]; exact r
    exact r'.carry ⟨fun _ _ h _ _ => h, fun _ _ _ h => h, fun k hk => absurd hk (Nat.not_lt_zero _), Nat.le_refl _⟩
  · have r' := r.cutL (m := 0) (O' := S.O O0) (fun _ h => h) h
    exact r'.carry ⟨fun _ _ h _ _ => h, fun _ _ _ h => h, fun k hk => absurd hk (Nat.not_lt_zero _), Nat.le_refl _⟩
/-- the state a callee sees that touches nothing of the store -/
def Sto.hid (S : Sto) : Sto := ⟨S.H, S.mu, []⟩
theorem hid_O {S : Sto} {O0 : Av} (a : Addr) : S.hid.O (S.O O0) a ↔ S.O O0 a := by
  constructor
  · intro q
    rcases q with q | ⟨k, hk, _⟩
    · exact q
    · exact absurd hk (Nat.not_lt_zero _)
  · exact fun q => .inl q
theorem SOk.hid {O0 : Av} {S : Sto} (ok : SOk K O0 T S) : SOk K (S.O O0) T S.hid where
  obj := fun k d e => by cases e
  inj := fun i j hi => absurd hi (Nat.not_lt_zero _)
  out := fun k hk => absurd hk (Nat.not_lt_zero _)
  dom := fun a q => by
    rcases q with q | ⟨k, hk, e⟩
    · exact ok.dom a q
    · rw [← e]; exact ok.there hk
  tab := ok.tab
/-- back at the caller's -/
theorem back {O0 : Av} {S S' : Sto} (ok : SOk K O0 T S) (ok' : SOk K (S.O O0) T S') (s : Step S.hid S') : Step S ⟨S'.H, S.mu, S.M⟩ ∧ SOk K O0 T ⟨S'.H, S.mu, S.M⟩ := by
  have nown : ∀ a, ¬ S.hid.own a := fun a ⟨k, hk, _⟩ => absurd hk (Nat.not_lt_zero _)
  have st : Step S ⟨S'.H, S.mu, S.M⟩ := ⟨fun a o h _ t => s.keep a o h (nown a) t, s.dom, fun _ _ => rfl, Nat.le_refl _, fun k h1 h2 => absurd h2 (Nat.not_lt.mpr h1)⟩
  refine ⟨st, fun k d e => ?_, ok.inj, ok.out, fun a q => st.dom a (ok.dom a q), ok'.tab⟩
  have q := ok.obj k d e
  refine q.carry (st.carry O0) ?_
  obtain ⟨o, e1, c⟩ := q
  rw [e1]
  exact s.keep _ o e1 (nown _) c.notbl
theorem back_rp {O0 : Av} {S S' : Sto} {v : V} {d : D} (hM : S'.M = []) (r : R K (S.O O0) S' v d) : R K O0 ⟨S'.H, S.mu, S.M⟩ v d := by
  have e : S'.M.length = 0 := by rw [hM]; rfl
  have r' : Rp K S'.H (S'.O (S.O O0)) S'.mu 0 v d := by rw [← e]; exact r
  refine r'.carry ⟨fun _ _ h _ _ => h, fun a _ _ h q => h (.inl ?_), fun k hk => absurd hk (Nat.not_lt_zero _), Nat.zero_le _⟩
  exact q
end
/-- a promise whose ends leave nothing new -/
theorem ti_callP {X : Cx} {T : TabT} {W : WX} {P : PD} {wa : TDa} (hP : ∀ ds F, P ds [] F → P ds [] ⟨fun d M => M = [] ∧ F.rt d M, fun x M => M = [] ∧ F.xc x M⟩) :
    ∀ σ H Q, tD X.K T W (wCallP P wa) σ H Q → tCallS (spD X.K T P) (WE W) (tA X.K T W wa) σ H Q := by
  rintro σ H Q ⟨G, S, rho, xc, Phi, rfl, rel, ge, w, fin⟩
  refine ⟨G, S, rho, xc, _, rfl, rel, ge, w, fun ds S1 vs w1 s1 rel1 r1 => ?_⟩
  obtain ⟨h0, p⟩ := w1
  refine ⟨S1.O G.O0, S1.hid, ds, _, rfl, rel1.ok.hid, ?_, hP _ _ p, ?_, ?_⟩
  · have q := r1.zero h0 (mu := S1.hid.mu)
    exact q.carry ⟨fun _ _ h _ _ => h, fun a _ _ h z => h ((hid_O a).mp z), fun _ _ => rfl, Nat.le_refl _⟩
  · rintro d S' v ⟨hM, q⟩ s' ok' r'
    obtain ⟨st, ok2⟩ := back rel1.ok ok' s'
    exact fin d ⟨S'.H, S1.mu, S1.M⟩ v q (s1.trans st) (rel1.step' st ok2) (back_rp hM r')
  · rintro x S' cls dx ⟨hM, q⟩ s' ok' xr
    obtain ⟨st, ok2⟩ := back rel1.ok ok' s'
    refine ge x ⟨S'.H, S1.mu, S1.M⟩ rho σ cls dx q (rel1.step' st ok2) ?_
    obtain ⟨e1, e2⟩ := xr
    refine ⟨e1, ?_⟩
    obtain ⟨C, fs⟩ := x
    cases fs with
    | none => exact e2
    | some fs =>
      obtain ⟨a, fvs, e3, e4, r⟩ := e2
      refine ⟨a, fvs, e3, e4, ?_⟩
      have e : S'.M.length = 0 := by rw [hM]; rfl
      have r2 : RpF X.K S'.H (S'.O (S1.O G.O0)) S'.mu 0 fvs fs := by rw [← e]; exact r
      exact r2.carry ⟨fun _ _ h _ _ => h, fun a _ _ h z => h (.inl z), fun k hk => absurd hk (Nat.not_lt_zero _), Nat.zero_le _⟩
end DL

namespace DL
open PySem L2
/-- what a def gives that touches nothing that stands: its arguments, what is wanted of its value, of its error -/
abbrev FP := List D → (D → Prop) → (Exn → Prop) → Prop
def pureP (f : FP) : PD := fun ds M F => M = [] ∧ f ds (fun d => F.rt d []) (fun x => F.xc x [])
abbrev spP (K : PySem.W.Frag) (T : TabT) (f : FP) : Sp := spD K T (pureP f)
def wCall (f : FP) (wa : TDa) : TDe := fun xc rho M Phi => wa xc rho M fun ds M1 => (M1 = [] ∨ ltL 0 ds = true) ∧ f ds (fun d => Phi d M1) (fun x => xc x rho M1)
section
variable {X : Cx} {T : TabT} {W : WX} {e : Expr} {es : List Expr} {wa : TDa} {k : Nat} {f : Addr} {fd : FuncData} {ps : List Str} {x : Str} {p pos : Pos} {ff : FP}
theorem ti_call : ∀ σ H Q, tD X.K T W (wCall ff wa) σ H Q → tCallS (spP X.K T ff) (WE W) (tA X.K T W wa) σ H Q := by
  intro σ H Q h
  refine ti_callP (P := pureP ff) (fun ds F q => ⟨rfl, ?_⟩) σ H Q ?_
  · have e1 : (fun d => ([] : List D) = [] ∧ F.rt d []) = fun d => F.rt d [] := funext fun d => propext ⟨fun z => z.2, fun z => ⟨rfl, z⟩⟩
    have e2 : (fun d => ([] : List D) = [] ∧ F.xc d []) = fun d => F.xc d [] := funext fun d => propext ⟨fun z => z.2, fun z => ⟨rfl, z⟩⟩
    show ff ds (fun d => ([] : List D) = [] ∧ F.rt d []) (fun d => ([] : List D) = [] ∧ F.xc d [])
    rw [e1, e2]
    exact q.2
  · obtain ⟨G, S, rho, xc, Phi, e, rel, ge, w, fin⟩ := h
    refine ⟨G, S, rho, xc, Phi, e, rel, ge, ?_, fin⟩
    have e3 : wCallP (pureP ff) wa = wCall ff wa := by
      funext xc rho M Phi
      unfold wCallP wCall pureP
      simp only [true_and]
    rw [e3]
    exact w
theorem ed_call (F : FnOk X.prog X.w X.K X.mg X.base (L2.CX X.prog X.w) k f fd ps (spP X.K T ff)) (hr : Room k X.A) (hg : Gl X x) (hm : X.mg x = some (.ref f)) (hk : PySem.W.keepIn X.K (.ref f) = true) (hb : Binds X.K fd ps []) (tk : Takes X W)
    (ha : EA X T W (e :: es) wa) (hdb : (x == ("__debug__" : Str)) = false := by decide) (he : starEach (e :: es) X.env = (false, eval e X.env) :: starEach es X.env := by rfl) (hpl : (backTo pos (starEach es X.env)).any (·.1) = false := by rfl) :
    ED X T W (.Call (.Name x p) (e :: es) [] pos) (wCall ff wa) :=
  ⟨pe_of (pe_callS F hr hg hm hk hb (fun σ => passAt tk σ) ha.run hdb he hpl) ti_call⟩
end

/-! ### what is walked -/
abbrev TDi := XC → Rho → List D → (List D → (List D → Prop) → List D → Prop) → Prop
abbrev CarryS (O0 : Av) (S0 : Sto) (O1 : Av) (S : Sto) : Prop := Carry S0.H (S0.O O0) S0.mu S0.M.length S.H (S.O O1) S.mu S.M.length
def WalksD (K : PySem.W.Frag) (T : TabT) (O0 : Av) (S0 : Sto) (J : It) (items : List D) (g : List D → Prop) : Prop :=
  ∀ (i : Nat) (S : Sto) (O1 : Av), CarryS O0 S0 O1 S → SOk K O1 T S → g S.M →
    (∀ d, items[i]? = some d → J.go i S.H ∧ ∀ x H', J.yld i S.H x H' → ∃ S', S'.H = H' ∧ S'.M = S.M ∧ Step S S' ∧ SOk K O1 T S' ∧ R K O1 S' x d) ∧ (i = items.length → J.stop i S.H)
def tI (K : PySem.W.Frag) (T : TabT) (W : WX) (w : TDi) : TI := fun σ H RR => ∃ G S rho xc Phi, S.H = H ∧ Rel K T G S rho σ ∧ GE K T G W xc ∧ w xc rho S.M Phi ∧
  ∀ items g S', Phi items g S'.M → Step S S' → Rel K T G S' rho σ → ∀ J, WalksD K T G.O0 S' J items g → RR J S'.H
structure ID (X : Cx) (T : TabT) (W : WX) (tg iter : Expr) (w : TDi) : Prop where
  run : PI X tg iter (tI X.K T W w)
theorem pi_of {X : Cx} {tg e : Expr} {t t' : TI} (h : PI X tg e t) (i : ∀ σ H Q, t' σ H Q → t σ H Q) : PI X tg e t' := ⟨fun pins s σ H Q I q => h.run pins s σ H Q I (i σ H Q q)⟩

/-! a list or a tuple, as it comes -/
def iSeq (K : PySem.W.Frag) (tl : TE) : TI := fun σ H RR => tl σ H fun x H1 => ∃ a, x = .ref a ∧ ((∃ xs, SqL K H1 a xs) ∧ RR (Itl K a) H1 ∨ (∃ xs, SqT K H1 a xs) ∧ RR (Itt K a) H1)
theorem pi_seq {X : Cx} {tg l : Expr} {tl : TE} (hl : PE X l tl) : PI X tg l (iSeq X.K tl) := by
  refine ⟨fun pins s σ H RR I h => thn (hl.run pins s σ H _ I h) fun v s1 ⟨x, H1, I1, r1, q1⟩ => ?_⟩
  obtain ⟨a, ea, q1⟩ := q1
  subst ea
  cases r1
  have fr : FpOk X pins H1 s1.heap.objs.size := I1.fpOk (Nat.le_refl _) (I1.hok.fresh (Nat.le_refl _))
  have fr' : ∀ b ∈ [s1.heap.objs.size], FpOk X pins H1 b := fun b hb => by
    rw [List.mem_singleton.mp hb]
    exact fr
  rcases q1 with ⟨⟨xs, hq⟩, q⟩ | ⟨⟨xs, hq⟩, q⟩
  · obtain ⟨its, rv, pl, _⟩ := I1.list hq
    refine wpAny_pyIter_list pl.isList ⟨_, [s1.heap.objs.size], _, _, H1, rfl, I1.kept (t' := s1.toks) fun b o e => Heap.get?_push_of_some _ e, turn_list a _, ⟨_, Heap.get?_push_size _ rfl, rfl, rfl⟩, fr', q⟩
  · obtain ⟨its, rv, pl, _⟩ := I1.tuple hq
    refine wpAny_pyIter_tuple (show s1.heap.IsTuple a its.toArray from pl) ⟨_, [s1.heap.objs.size], _, _, H1, rfl, I1.kept (t' := s1.toks) fun b o e => Heap.get?_push_of_some _ e, turn_tuple a _, ⟨_, Heap.get?_push_size _ rfl, rfl, rfl⟩, fr', q⟩
/-- the things of a value that is walked, and what must stay -/
def wSeqI (we : TDe) : TDi := fun xc rho M Phi => we xc rho M fun d M1 => match seqOf M1 d with
  | some ds => ds.length ≤ sizeLine → Phi ds (fun M' => seqOf M' d = some ds) M1
  | none => False
section
variable {X : Cx} {T : TabT} {W : WX} {tg e a b : Expr} {we wa wb : TDe} {p pos : Pos}
theorem walks_tup {K : PySem.W.Frag} {O0 : Av} {S0 : Sto} {p : Addr} {vs : List V} {ds : List D} {g : List D → Prop} (r : R K O0 S0 (.ref p) (.tup ds)) : WalksD K T O0 S0 (Itt K p) ds g := by
  intro i S O1 c ok _
  have r' : R K O1 S (.ref p) (.tup ds) := r.carry c
  obtain ⟨q, vs, e, sq, rs, _⟩ := rp_tup r'
  cases e
  refine ⟨fun d hd => ?_, fun hi => ⟨vs, sq, by rw [rs.len]; exact Nat.le_of_eq hi.symm⟩⟩
  obtain ⟨v, hv, rv⟩ := rs.get hd
  refine ⟨⟨vs, v, sq, hv⟩, fun x H' y => ?_⟩
  obtain ⟨rfl, y⟩ := y
  have := y vs sq
  rw [hv] at this
  cases this
  exact ⟨S, rfl, rfl, Step.refl S, ok, rv⟩
theorem walks_tpx {K : PySem.W.Frag} {O0 : Av} {S0 : Sto} {p : Addr} {vs : List V} {ds : List D} {g : List D → Prop} (r : R K O0 S0 (.ref p) (.tpx ds)) : WalksD K T O0 S0 (Itt K p) ds g := by
  intro i S O1 c ok _
  have r' : R K O1 S (.ref p) (.tpx ds) := r.carry c
  obtain ⟨q, vs, e, sq, rs, _⟩ := r_tup r' (rfl : tupOf (.tpx ds) = some ds)
  cases e
  refine ⟨fun d hd => ?_, fun hi => ⟨vs, sq, by rw [rs.len]; exact Nat.le_of_eq hi.symm⟩⟩
  obtain ⟨v, hv, rv⟩ := rs.get hd
  refine ⟨⟨vs, v, sq, hv⟩, fun x H' y => ?_⟩
  obtain ⟨rfl, y⟩ := y
  have := y vs sq
  rw [hv] at this
  cases this
  exact ⟨S, rfl, rfl, Step.refl S, ok, rv⟩
theorem walks_lst {K : PySem.W.Frag} {O0 : Av} {S0 : Sto} {p : Addr} {d0 : D} {ds : List D} (r : R K O0 S0 (.ref p) d0) : WalksD K T O0 S0 (Itl K p) ds (fun M' => lstOf M' d0 = some ds) := by
  intro i S O1 c ok hg
  have r' : R K O1 S (.ref p) d0 := r.carry c
  obtain ⟨q, vs, e, sq, rs, _⟩ := r_lst ok r' hg
  cases e
  refine ⟨fun d hd => ?_, fun hi => ⟨vs, sq, by rw [rs.len]; exact Nat.le_of_eq hi.symm⟩⟩
  obtain ⟨v, hv, rv⟩ := rs.get hd
  refine ⟨⟨vs, v, sq, hv⟩, fun x H' y => ?_⟩
  obtain ⟨rfl, y⟩ := y
  have := y vs sq
  rw [hv] at this
  cases this
  exact ⟨S, rfl, rfl, Step.refl S, ok, rv⟩
theorem WalksD.imp {K : PySem.W.Frag} {O0 : Av} {S0 : Sto} {J : It} {ds : List D} {g g' : List D → Prop} (h : WalksD K T O0 S0 J ds g) (i : ∀ M, g' M → g M) : WalksD K T O0 S0 J ds g' := fun n S O1 s ok q => h n S O1 s ok (i _ q)
theorem id_seq (h : ED X T W e we) : ID X T W tg e (wSeqI we) := by
  refine ⟨pi_of (pi_seq h.run) ?_⟩
  rintro σ H Q ⟨G, S, rho, xc, Phi, rfl, rel, ge, w, fin⟩
  refine ⟨G, S, rho, xc, _, rfl, rel, ge, w, fun d S1 x w1 s1 rel1 r1 => ?_⟩
  cases hs : seqOf S1.M d with
  | none => rw [hs] at w1; exact w1.elim
  | some ds =>
    rw [hs] at w1
    dsimp only at w1
    unfold seqOf at hs
    cases ht : tupOf d with
    | some ds' =>
      rw [ht] at hs
      have e1 : ds' = ds := Option.some.inj hs
      subst e1
      cases d with
      | tup ds2 =>
        have e2 : ds2 = ds' := Option.some.inj ht
        subst e2
        obtain ⟨q, vs, rfl, sq, rs, hlen⟩ := rp_tup r1
        exact ⟨q, rfl, .inr ⟨⟨vs, sq⟩, fin _ _ S1 (w1 hlen) s1 rel1 _ (walks_tup (vs := vs) r1)⟩⟩
      | tpx ds2 =>
        have e2 : ds2 = ds' := Option.some.inj ht
        subst e2
        obtain ⟨q, vs, rfl, sq, rs, hlen⟩ := r_tup r1 (rfl : tupOf (.tpx ds2) = some ds2)
        exact ⟨q, rfl, .inr ⟨⟨vs, sq⟩, fin _ _ S1 (w1 hlen) s1 rel1 _ (walks_tpx (vs := vs) r1)⟩⟩
      | _ => cases ht
    | none =>
      rw [ht] at hs
      obtain ⟨q, vs, rfl, sq, rs, hlen⟩ := r_lst rel1.ok r1 hs
      refine ⟨q, rfl, .inl ⟨⟨vs, sq⟩, fin _ _ S1 (w1 hlen) s1 rel1 _ ((walks_lst r1).imp fun M hM => ?_)⟩⟩
      unfold seqOf at hM
      rw [ht] at hM
      exact hM
def rngD (lo : Int) (n : Nat) : List D := (List.range n).map fun i => .int (lo + (i : Nat))
theorem walks_rng {K : PySem.W.Frag} {O0 : Av} {S0 : Sto} {lo : Int} {n : Nat} {g : List D → Prop} : WalksD K T O0 S0 (Itr lo n) (rngD lo n) g := by
  intro i S O1 s ok _
  unfold rngD
  refine ⟨fun d hd => ?_, fun hi => by rw [List.length_map, List.length_range] at hi; exact Nat.le_of_eq hi.symm⟩
  rw [List.getElem?_map] at hd
  by_cases hi : i < n
  · rw [List.getElem?_range hi] at hd
    have e := Option.some.inj hd
    subst e
    refine ⟨hi, fun x H' y => ?_⟩
    obtain ⟨rfl, rfl⟩ := y
    exact ⟨S, rfl, rfl, Step.refl S, ok, .int _⟩
  · rw [List.getElem?_eq_none (by rw [List.length_range]; omega)] at hd
    cases hd
def wRng1 (wa : TDa) : TDi := fun xc rho M Phi => wa xc rho M fun ds M1 => match ds with
  | [.int j] => (-(2 ^ 62) ≤ j ∧ j < 2 ^ 62) ∧ Phi (rngD 0 j.toNat) (fun _ => True) M1
  | _ => False
def wRng2 (wa : TDa) : TDi := fun xc rho M Phi => wa xc rho M fun ds M1 => match ds with
  | [.int i, .int j] => (-(2 ^ 62) ≤ i ∧ i < 2 ^ 62 ∧ -(2 ^ 62) ≤ j ∧ j < 2 ^ 62) ∧ Phi (rngD i (j - i).toNat) (fun _ => True) M1
  | _ => False
theorem id_rng1 {wa : TDa} (h : PI X tg (.Call (.Name "range" p) [a] [] pos) (iRng1 (tA X.K T W wa))) : ID X T W tg (.Call (.Name "range" p) [a] [] pos) (wRng1 wa) := by
  refine ⟨pi_of h ?_⟩
  rintro σ H Q ⟨G, S, rho, xc, Phi, rfl, rel, ge, w, fin⟩
  refine ⟨G, S, rho, xc, _, rfl, rel, ge, w, fun ds S1 vs w1 s1 rel1 r1 => ?_⟩
  split at w1
  · rename_i j
    obtain ⟨x, rfl, ra⟩ := rs1 r1
    rw [rp_int ra]
    exact ⟨j, rfl, w1.1.1, w1.1.2, fin _ _ S1 w1.2 s1 rel1 _ walks_rng⟩
  · exact w1.elim
theorem id_rng2 {wa : TDa} (h : PI X tg (.Call (.Name "range" p) [a, b] [] pos) (iRng2 (tA X.K T W wa))) : ID X T W tg (.Call (.Name "range" p) [a, b] [] pos) (wRng2 wa) := by
  refine ⟨pi_of h ?_⟩
  rintro σ H Q ⟨G, S, rho, xc, Phi, rfl, rel, ge, w, fin⟩
  refine ⟨G, S, rho, xc, _, rfl, rel, ge, w, fun ds S1 vs w1 s1 rel1 r1 => ?_⟩
  split at w1
  · rename_i i j
    obtain ⟨x, y, rfl, ra, rb⟩ := rs2 r1
    rw [rp_int ra, rp_int rb]
    exact ⟨i, j, rfl, w1.1, fin _ _ S1 w1.2 s1 rel1 _ walks_rng⟩
  · exact w1.elim
end

/-! ### for -/
def forGo (g : TDg) (wb : TDs) (gd : List D → Prop) (xc : XC) (F : Fin) : List D → Rho → List D → Prop
  | [], rho, M => gd M ∧ F.nx rho M
  | d :: ds, rho, M => gd M ∧ g d rho M fun rho1 M1 => wb xc { nx := forGo g wb gd xc F ds, rt := F.rt, ct := forGo g wb gd xc F ds, bk := F.nx } rho1 M1
def wFor (wi : TDi) (g : TDg) (wb : TDs) : TDs := fun xc F rho M => wi xc rho M fun items gd M1 => forGo g wb gd xc F items rho M1
section
variable {X : Cx} {T : TabT} {W : WX} {tg iter : Expr} {body : List Stmt} {wi : TDi} {g : TDg} {wb : TDs} {pos : Pos}
theorem drop_some {α : Type} {l : List α} {i : Nat} {d : α} {ds : List α} (h : l.drop i = d :: ds) : l[i]? = some d ∧ l.drop (i + 1) = ds := by
  have h1 : i < l.length := by
    apply Classical.byContradiction
    intro hn
    rw [List.drop_eq_nil_of_le (Nat.not_lt.mp hn)] at h
    cases h
  rw [List.drop_eq_getElem_cons h1] at h
  injection h with h2 h3
  exact ⟨by rw [List.getElem?_eq_getElem h1, h2], h3⟩
/-- .. with a later beginning -/
theorem Rel.later {K : PySem.W.Frag} {G : Ctx} {S1 S : Sto} {rho : Rho} {σ : St} (s : Step G.S0 S1) (h : Rel K T ⟨G.O0, S1⟩ S rho σ) : Rel K T G S rho σ := ⟨h.ok, s.trans h.step, h.slots⟩
theorem GE.later {K : PySem.W.Frag} {G : Ctx} {S1 : Sto} {xc : XC} (s : Step G.S0 S1) (h : GE K T G W xc) : GE K T ⟨G.O0, S1⟩ W xc := fun x S rho σ cls dx q rel xr => h x S rho σ cls dx q (rel.later s) xr
theorem sd_for {is : List Nat} (hp : PassesOwn (model X.prog X.w) X.A X.env X.xe) (hc : X.calm = true) (hi : ID X T W tg iter wi) (hg : GD X T is tg g) (hb : SDs X T W body wb) (hs : ∀ x, foldedSetIterable iter X.env x = pure x := by intro _; rfl) : SD X T W (.For tg iter body [] pos) (wFor wi g wb) := by
  refine ⟨ps_of (ps_for hp hc hi.run hg.run hb.run hs) ?_⟩
  rintro Dn σ H ⟨G, S, rho, xc, F, rfl, rel, ge, w, ends⟩
  refine ⟨G, S, rho, xc, _, rfl, rel, ge, w, fun items gd S1 w1 s1 rel1 J wk => ?_⟩
  have s01 := rel1.step
  refine ⟨fun i m σ H => ∃ S rho, S.H = H ∧ Rel X.K T ⟨G.O0, S1⟩ S rho σ ∧ i + m = items.length ∧ forGo g wb gd xc F (items.drop i) rho S.M, ⟨items.length, S1, rho, rfl, ⟨rel1.ok, Step.refl S1, rel1.slots⟩, Nat.zero_add _, w1⟩, ?_⟩
  rintro i m σ' H' ⟨S2, rho2, rfl, rel2, him, w2⟩
  cases hd : items.drop i with
  | nil =>
    rw [hd] at w2
    obtain ⟨w2, w3⟩ := w2
    have hl : items.length ≤ i := by
      apply Classical.byContradiction
      intro hn
      rw [List.drop_eq_getElem_cons (by omega)] at hd
      cases hd
    exact .inl ⟨(wk i S2 G.O0 (rel2.step.carry G.O0) rel2.ok w2).2 (by omega), ends.nx S2 rho2 σ' w3 (rel2.later s01)⟩
  | cons d ds =>
    rw [hd] at w2
    obtain ⟨w2, w3⟩ := w2
    obtain ⟨h1, h2⟩ := drop_some hd
    have hil : i < items.length := (List.getElem?_eq_some_iff.mp h1).1
    obtain ⟨go, yl⟩ := (wk i S2 G.O0 (rel2.step.carry G.O0) rel2.ok w2).1 d h1
    refine .inr ⟨go, fun σ3 H3 => ∃ S rho, S.H = H3 ∧ Rel X.K T ⟨G.O0, S1⟩ S rho σ3 ∧ forGo g wb gd xc F ds rho S.M, fun σ3 H3 ⟨S3, rho3, e3, rel3, w3⟩ => ⟨m - 1, by omega, S3, rho3, e3, rel3, by omega, by rw [h2]; exact w3⟩, fun x H4 y => ?_⟩
    obtain ⟨S4, rfl, eM, s4, ok4, r4⟩ := yl x H4 y
    refine ⟨⟨G.O0, S1⟩, S4, rho2, d, _, rfl, rel2.step' s4 ok4, r4, (by rw [eM]; exact w3), fun rho5 S5 σ5 w5 s5 rel5 _ => ?_⟩
    refine ⟨⟨G.O0, S1⟩, S5, rho5, xc, _, rfl, rel5, ge.later s01, w5, ⟨fun S6 rho6 σ6 w6 rel6 => ⟨S6, rho6, rfl, rel6, w6⟩, fun S6 d6 v6 w6 ok6 s6 r6 => ends.rt S6 d6 v6 w6 ok6 (s01.trans s6) r6, fun S6 rho6 σ6 w6 rel6 => ends.nx S6 rho6 σ6 w6 (rel6.later s01), fun S6 rho6 σ6 w6 rel6 => ⟨S6, rho6, rfl, rel6, w6⟩⟩⟩
end
end DL

namespace DL
open PySem L2
/-! ### comprehensions -/
def wipeD (rho : Rho) : List Nat → Rho
  | [] => rho
  | v :: vs => (wipeD rho vs).set v none
theorem wipeD_len (rho : Rho) : ∀ vs : List Nat, (wipeD rho vs).length = rho.length
  | [] => rfl
  | v :: vs => by unfold wipeD; rw [List.length_set, wipeD_len rho vs]
theorem wipeD_get (rho : Rho) : ∀ (vs : List Nat) (j : Nat), (wipeD rho vs)[j]? = if j ∈ vs ∧ j < rho.length then some none else rho[j]?
  | [], j => by simp [wipeD]
  | v :: vs, j => by
    have ih := wipeD_get rho vs j
    unfold wipeD
    by_cases h : v = j
    · subst h
      by_cases hl : v < rho.length
      · rw [List.getElem?_set_self (by rw [wipeD_len]; exact hl), if_pos ⟨List.mem_cons_self, hl⟩]
      · rw [if_neg (fun z => hl z.2), List.getElem?_eq_none (by rw [List.length_set, wipeD_len]; omega), List.getElem?_eq_none (by omega)]
    · rw [List.getElem?_set_ne h, ih]
      by_cases hm : j ∈ vs ∧ j < rho.length
      · rw [if_pos hm, if_pos ⟨List.mem_cons_of_mem _ hm.1, hm.2⟩]
      · rw [if_neg hm, if_neg (fun z => hm ⟨(List.mem_cons.mp z.1).resolve_left (fun e => h e.symm), z.2⟩)]
theorem wipe_idem (σ : St) (vs : List Nat) : wipe (wipe σ vs) vs = wipe σ vs := by
  apply List.ext_getElem?
  intro j
  rw [wipe_get, wipe_length, wipe_get]
  split <;> rfl
theorem Slots.wipe {K : PySem.W.Frag} {O0 : Av} {S : Sto} {rho : Rho} {σ : St} (h : Slots K O0 S rho σ) (vs : List Nat) : Slots K O0 S (wipeD rho vs) (L2.wipe σ vs) := by
  refine ⟨by rw [wipeD_len, wipe_length]; exact h.len, fun i d e => ?_⟩
  rw [wipeD_get] at e
  by_cases hm : i ∈ vs ∧ i < rho.length
  · rw [if_pos hm] at e; cases e
  · rw [if_neg hm] at e
    obtain ⟨v, e1, r⟩ := h.get i d e
    exact ⟨v, by rw [wipe_get, if_neg (by rw [← h.len]; exact hm)]; exact e1, r⟩
theorem Slots.carry {K : PySem.W.Frag} {O0 O1 : Av} {S S' : Sto} {rho : Rho} {σ : St} (h : Slots K O0 S rho σ) (c : CarryS O0 S O1 S') : Slots K O1 S' rho σ :=
  ⟨h.len, fun i d e => let ⟨v, e1, r⟩ := h.get i d e; ⟨v, e1, r.carry c⟩⟩
abbrev orA (O0 : Av) (A : Addr) : Av := fun a => O0 a ∨ a = A
section
variable {K : PySem.W.Frag} {T : TabT} {O0 : Av} {S S1 S2 : Sto} {A : Addr} {o : HO}
theorem carryA (s : Step S1 S2) (hA : S1.H A = none) : CarryS O0 S1 (orA O0 A) S2 where
  keep := fun a u h n t => s.keep a u h (fun q => n (.inr q)) t
  out := fun a u h n q => by
    rcases q with (q | q) | q
    · exact n (.inl q)
    · subst q; rw [h] at hA; cases hA
    · exact n (.inr (s.own_of (by rw [h]; simp) q))
  mu := s.mu
  le := s.le
theorem SOk.wider (ok : SOk K O0 T S) (hA : S.H A = none) : SOk K (orA O0 A) T (S.lay A o) where
  obj := fun k d e => (ok.obj k d e).carry (carryA (Step.lay (o := o) hA) hA) (upd_ne (ne_free hA (ok.obj k d e).there))
  inj := ok.inj
  out := fun k hk q => by
    rcases q with q | q
    · exact ok.out k hk q
    · exact ok.there (k := k) hk (by rw [show S.mu k = A from q]; exact hA)
  dom := fun a q => by
    rcases q with q | q
    · exact (Step.lay (o := o) hA).dom a (ok.dom a q)
    · rw [q]; show upd S.H A o A ≠ none; rw [upd_same]; simp
  tab := (ok.lay (o := o) hA).tab
theorem tabs_over {vs : List V} (ht : LamX.Tabs T S.H) (hA : S.H A = some (.lst vs)) {u : Option HO} : LamX.Tabs T (fun b => if b = A then u else S.H b) := fun p hp => by
  obtain ⟨ps, h1, h2, h3⟩ := ht p hp
  refine ⟨ps, ?_, h2, fun pos cv hc => ?_⟩
  · show (if p.1 = A then u else S.H p.1) = _
    rw [if_neg (fun z => by rw [z, hA] at h1; cases h1)]
    exact h1
  · obtain ⟨c', e1, e2⟩ := h3 pos cv hc
    refine ⟨c', e1, ?_⟩
    show (if c' = A then u else S.H c') = _
    rw [if_neg (fun z => by rw [z, hA] at e2; unfold LamX.CodeO at e2; cases e2)]
    exact e2
theorem carry_over {O1 : Av} (h : O1 A) : CarryS O1 S O1 (S.lay A o) where
  keep := fun a u e n _ => by
    show upd S.H A o a = some u
    rw [upd_ne (fun z => n (.inl (by rw [z]; exact h)))]
    exact e
  out := fun a u _ n q => n q
  mu := fun _ _ => rfl
  le := Nat.le_refl _
theorem SOk.over {O1 : Av} {vs ws : List V} (ok : SOk K O1 T S) (h : O1 A) (hA : S.H A = some (.lst vs)) : SOk K O1 T (S.lay A (.lst ws)) where
  obj := fun k d e => (ok.obj k d e).carry (carry_over h) (upd_ne fun z => ok.out k (List.getElem?_eq_some_iff.mp e).1 (by rw [show S.mu k = A from z]; exact h))
  inj := ok.inj
  out := ok.out
  dom := fun a q => by
    show upd S.H A _ a ≠ none
    by_cases z : a = A
    · rw [z, upd_same]; simp
    · rw [upd_ne z]; exact ok.dom a q
  tab := tabs_over ok.tab hA
/-- without the thing at A -/
def Sto.off (S : Sto) (A : Addr) : Sto := { S with H := fun b => if b = A then none else S.H b }
theorem off_upd {vs : List V} (hA : S.H A = some (.lst vs)) : upd (S.off A).H A (.lst vs) = S.H := by
  funext b
  unfold upd Sto.off
  by_cases z : b = A
  · rw [if_pos z, z, hA]
  · rw [if_neg z]
    exact if_neg z
theorem carry_off : CarryS (orA O0 A) S O0 (S.off A) where
  keep := fun a u e n _ => by
    show (if a = A then none else S.H a) = some u
    rw [if_neg (fun z => n (.inl (.inr z)))]
    exact e
  out := fun a u _ n q => by
    rcases q with q | q
    · exact n (.inl (.inl q))
    · exact n (.inr q)
  mu := fun _ _ => rfl
  le := Nat.le_refl _
theorem SOk.off {vs : List V} (ok : SOk K (orA O0 A) T S) (s : Step S1 S) (ok1 : SOk K O0 T S1) (h1 : S1.H A = none) (hA : S.H A = some (.lst vs)) : SOk K O0 T (S.off A) where
  obj := fun k d e => (ok.obj k d e).carry carry_off (by
    show (if S.mu k = A then none else S.H (S.mu k)) = S.H (S.mu k)
    exact if_neg fun z => ok.out k (List.getElem?_eq_some_iff.mp e).1 (.inr z))
  inj := ok.inj
  out := fun k hk q => ok.out k hk (.inl q)
  dom := fun a q => by
    show (if a = A then none else S.H a) ≠ none
    rw [if_neg (fun z => ok1.dom a q (by rw [z]; exact h1))]
    exact ok.dom a (.inl q)
  tab := tabs_over ok.tab hA
theorem Step.offA (s : Step S1 S) (h1 : S1.H A = none) : Step S1 (S.off A) where
  keep := fun a u e n t => by
    show (if a = A then none else S.H a) = some u
    rw [if_neg (fun z => by rw [z, h1] at e; cases e)]
    exact s.keep a u e n t
  dom := fun a e => by
    show (if a = A then none else S.H a) ≠ none
    rw [if_neg (fun z => e (by rw [z]; exact h1))]
    exact s.dom a e
  mu := s.mu
  le := s.le
  new := s.new
theorem Step.overA (s : Step S1 S) (h1 : S1.H A = none) : Step S1 (S.lay A o) where
  keep := fun a u e n t => by
    show upd S.H A o a = some u
    rw [upd_ne (fun z => by rw [z, h1] at e; cases e)]
    exact s.keep a u e n t
  dom := fun a e => by
    show upd S.H A o a ≠ none
    rw [upd_ne (fun z => e (by rw [z]; exact h1))]
    exact s.dom a e
  mu := s.mu
  le := s.le
  new := s.new
end
def lcGo (g : TDg) (wt : TDt) (we : TDe) (gd : List D → Prop) (rho : Rho) (Phi : D → List D → Prop) : List D → List D → List D → Prop
  | [], acc, M => gd M ∧ Phi (.lst acc) M
  | d :: ds, acc, M => gd M ∧ g d rho M fun rho1 M1 => wt xc0 rho1 M1 fun b M2 => if b = true then we xc0 rho1 M2 fun y M3 => lcGo g wt we gd rho Phi ds (acc ++ [y]) M3 else lcGo g wt we gd rho Phi ds acc M2
def wLc (wi : TDi) (g : TDg) (wt : TDt) (we : TDe) (vs : List Nat) : TDe := fun xc rho M Phi => wi xc rho M fun items gd M1 => items.length ≤ sizeLine ∧ lcGo g wt we gd (wipeD rho vs) Phi items [] M1
structure EPt (X : Cx) (T : TabT) (W : WX) (ifs : List Expr) (w : TDt) : Prop where
  run : PTs X ifs (tT X.K T W w)
def wYes : TDt := fun _ _ M Phi => Phi true M
section
variable {X : Cx} {T : TabT} {W : WX} {c : Expr} {w : TDt}
theorem ep_nil : EPt X T W [] wYes := by
  refine ⟨⟨fun pins s σ H Q I h => pts_nil.run pins s σ H Q I ?_⟩⟩
  obtain ⟨G, S, rho, xc, Phi, rfl, rel, ge, w, fin⟩ := h
  exact fin true S w (Step.refl S) rel
theorem ep_one (h : ET X T W c w) : EPt X T W [c] w := ⟨pts_one h.run⟩
end
section
variable {X : Cx} {T : TabT} {W : WX} {elt tg iter : Expr} {ifs : List Expr} {scope : Scope} {own : List (Str × Nat)} {is : List Nat} {pos : Pos} {wi : TDi} {g : TDg} {wt : TDt} {we : TDe}
theorem ti_lc (his : ∀ i, i ∈ is → i ∈ own.map (·.2)) : ∀ σ H Q, tN X.K T W (wLc wi g wt we (own.map (·.2))) σ H Q → tLc (tI X.K T W wi) (tG X.K T is g) (tT X.K T W0 wt) (tD X.K T W0 we) (own.map (·.2)) σ H Q := by
  rintro σ H Q ⟨G, S, rho, xc, Phi, rfl, rel, ge, w, fin⟩
  refine ⟨G, S, rho, xc, _, rfl, rel, ge, w, fun items gd S1 w1 s1 rel1 J wk => ?_⟩
  obtain ⟨hlen, w1⟩ := w1
  intro A hA
  refine ⟨fun i m H => ∃ S2 vs2 acc, S2.H = H ∧ Step S1 S2 ∧ SOk X.K (orA G.O0 A) T S2 ∧ S2.H A = some (.lst vs2) ∧ ¬ S2.own A ∧ Rs X.K (orA G.O0 A) S2 vs2 acc ∧ acc.length ≤ i ∧ i + m = items.length ∧
    lcGo g wt we gd (wipeD rho (own.map (·.2))) Phi (items.drop i) acc S2.M, ⟨items.length, S1.lay A (.lst []), [], [], rfl, Step.lay hA, rel1.ok.wider hA, upd_same, ?_, .nil, Nat.le_refl _, Nat.zero_add _, w1⟩, ?_⟩
  · rintro ⟨k, hk, e⟩
    exact rel1.ok.there hk (by rw [show S1.mu k = A from e]; exact hA)
  · rintro i m H' ⟨S2, vs2, acc, rfl, s2, ok2, hA2, nA2, rs2, hacc, him, w2⟩
    have c12 : CarryS G.O0 S1 (orA G.O0 A) S2 := carryA s2 hA
    cases hd : items.drop i with
    | nil =>
      rw [hd] at w2
      obtain ⟨w2, w3⟩ := w2
      have hl : items.length ≤ i := by
        apply Classical.byContradiction
        intro hn
        rw [List.drop_eq_getElem_cons (by omega)] at hd
        cases hd
      refine .inl ⟨(wk i S2 _ c12 ok2 w2).2 (by omega), ?_⟩
      have sf : Step S1 (S2.off A) := s2.offA hA
      have q := fin (.lst acc) (S2.off A) A (.lst vs2) w3 (s1.trans sf) (rel1.step' sf (ok2.off s2 rel1.ok hA hA2)) (if_pos rfl) ⟨vs2, rfl, by omega, rs2.carry carry_off⟩
      rw [off_upd hA2] at q
      exact q
    | cons d ds =>
      rw [hd] at w2
      obtain ⟨w2, w3⟩ := w2
      obtain ⟨h1, h2⟩ := drop_some hd
      have hil : i < items.length := (List.getElem?_eq_some_iff.mp h1).1
      obtain ⟨go, yl⟩ := (wk i S2 _ c12 ok2 w2).1 d h1
      refine .inr ⟨go, fun H3 => ∃ S3 vs3 acc3, S3.H = H3 ∧ Step S1 S3 ∧ SOk X.K (orA G.O0 A) T S3 ∧ S3.H A = some (.lst vs3) ∧ ¬ S3.own A ∧ Rs X.K (orA G.O0 A) S3 vs3 acc3 ∧ acc3.length ≤ i + 1 ∧
        lcGo g wt we gd (wipeD rho (own.map (·.2))) Phi ds acc3 S3.M, ?_, fun x H4 y => ?_⟩
      · rintro H3 ⟨S3, vs3, acc3, e3, a1, a2, a3, a4, a5, a6, a7⟩
        exact ⟨m - 1, by omega, S3, vs3, acc3, e3, a1, a2, a3, a4, a5, a6, by omega, by rw [h2]; exact a7⟩
      · obtain ⟨S4, rfl, eM, s4, ok4, r4⟩ := yl x H4 y
        have stay : ∀ {Sa Sb : Sto}, Step Sa Sb → Sa.H A = some (.lst vs2) → ¬ Sa.own A → Sb.H A = some (.lst vs2) ∧ ¬ Sb.own A := fun {Sa Sb} st h n =>
          ⟨st.keep A _ h n (fun ps z => by cases z), fun o => n (st.own_of (by rw [h]; simp) o)⟩
        obtain ⟨hA4, nA4⟩ := stay s4 hA2 nA2
        have s14 : Step S1 S4 := s2.trans s4
        refine ⟨⟨orA G.O0 A, S4⟩, S4, wipeD rho (own.map (·.2)), d, _, rfl, ⟨ok4, Step.refl S4, (rel1.slots.carry (carryA s14 hA)).wipe _⟩, r4, (by rw [eM]; exact w3), fun rho5 S5 σ5 w5 s5 rel5 u5 => ⟨?_, ?_⟩⟩
        · rw [u5 _ his, wipe_idem]
        · obtain ⟨hA5, nA5⟩ := stay s5 hA4 nA4
          refine ⟨⟨orA G.O0 A, S4⟩, S5, rho5, xc0, _, rfl, rel5, GE.none, w5, fun b S6 w6 s6 rel6 => ?_⟩
          obtain ⟨hA6, nA6⟩ := stay s6 hA5 nA5
          cases b with
          | true =>
            refine ⟨⟨orA G.O0 A, S4⟩, S6, rho5, xc0, _, rfl, rel6, GE.none, w6, fun y S7 v w7 s7 rel7 r7 => ?_⟩
            obtain ⟨hA7, nA7⟩ := stay s7 hA6 nA6
            have s17 : Step S1 S7 := ((s14.trans s5).trans s6).trans s7
            have rs7 : Rs X.K (orA G.O0 A) S7 vs2 acc := (((s4.trans s5).trans s6).trans s7).rps rs2
            refine ⟨vs2, hA7, by rw [rs2.len]; omega, S7.lay A (.lst (vs2 ++ [v])), vs2 ++ [v], acc ++ [y], rfl, s17.overA hA, rel7.ok.over (.inr rfl) hA7, upd_same, nA7, ?_, ?_, w7⟩
            · exact (rs7.append (.cons r7 .nil)).carry (carry_over (.inr rfl))
            · rw [List.length_append, List.length_singleton]; omega
          | false =>
            exact ⟨S6, vs2, acc, rfl, (s14.trans s5).trans s6, rel6.ok, hA6, nA6, ((s4.trans s5).trans s6).rps rs2, by omega, w6⟩
theorem en_lc (hc : X.calm = true) (hN : X.N.Nodup) (hi : ID X T W tg iter wi) (ok : BlkOk X.N X.env.scope scope own)
    (hg : ∀ (s : Shared) (H : Hp) (C : Addr) (cl : List (Str × Addr)) (fp : List Addr), GD (X.blk s H scope (compEnvC scope cl C X.env) fp) T is tg g)
    (ht : ∀ (s : Shared) (H : Hp) (C : Addr) (cl : List (Str × Addr)) (fp : List Addr), EPt (X.blk s H scope (compEnvC scope cl C X.env) fp) T W0 ifs wt)
    (he : ∀ (s : Shared) (H : Hp) (C : Addr) (cl : List (Str × Addr)) (fp : List Addr), ED (X.blk s H scope (compEnvC scope cl C X.env) fp) T W0 elt we)
    (his : ∀ i, i ∈ is → i ∈ own.map (·.2)) (hs : ∀ x, foldedSetIterable iter X.env x = pure x := by intro _; rfl) :
    EN X T W (.ListComp elt [⟨tg, iter, ifs, 0⟩] scope pos) (wLc wi g wt we (own.map (·.2))) :=
  ⟨pe_of (pe_lc hc hN hi.run ok (fun s H C cl fp => (hg s H C cl fp).run) (fun s H C cl fp => (ht s H C cl fp).run) (fun s H C cl fp => (he s H C cl fp).run) hs) (ti_lc his)⟩
end
end DL

namespace DL
open PySem L2
/-! ### numbers renamed -/
mutual
def D.ren (f : Nat → Nat) : D → D
  | .tup xs => .tup (renL f xs)
  | .tpx xs => .tpx (renL f xs)
  | .lst xs => .lst (renL f xs)
  | .ins C fs => .ins C (renF f fs)
  | .dct kvs => .dct (renP f kvs)
  | .loc k => .loc (f k)
  | .non => .non
  | .bl b => .bl b
  | .int i => .int i
  | .str x => .str x
  | .adr a => .adr a
  | .ty a => .ty a
def renL (f : Nat → Nat) : List D → List D
  | [] => []
  | d :: r => D.ren f d :: renL f r
def renF (f : Nat → Nat) : List (Str × D) → List (Str × D)
  | [] => []
  | (x, d) :: r => (x, D.ren f d) :: renF f r
def renP (f : Nat → Nat) : List (D × D) → List (D × D)
  | [] => []
  | (a, d) :: r => (a, D.ren f d) :: renP f r
end
mutual
/-- all its numbers are so -/
def D.al (p : Nat → Bool) : D → Bool
  | .tup xs => alL p xs
  | .tpx xs => alL p xs
  | .lst xs => alL p xs
  | .ins _ fs => alF p fs
  | .dct kvs => alP p kvs
  | .loc k => p k
  | _ => true
def alL (p : Nat → Bool) : List D → Bool
  | [] => true
  | d :: r => D.al p d && alL p r
def alF (p : Nat → Bool) : List (Str × D) → Bool
  | [] => true
  | (_, d) :: r => D.al p d && alF p r
def alP (p : Nat → Bool) : List (D × D) → Bool
  | [] => true
  | (_, d) :: r => D.al p d && alP p r
end
theorem renL_len (f : Nat → Nat) : ∀ ds : List D, (renL f ds).length = ds.length
  | [] => rfl
  | d :: r => by rw [renL, List.length_cons, List.length_cons, renL_len f r]
mutual
theorem ren_id {f : Nat → Nat} : ∀ {d : D}, d.lt 0 = true → d.ren f = d
  | .tup xs, h => by rw [D.ren, renL_id (by rw [D.lt] at h; exact h)]
  | .tpx xs, h => by rw [D.ren, renL_id (by rw [D.lt] at h; exact h)]
  | .lst xs, h => by rw [D.ren, renL_id (by rw [D.lt] at h; exact h)]
  | .ins C fs, h => by rw [D.ren, renF_id (by rw [D.lt] at h; exact h)]
  | .dct kvs, h => by rw [D.ren, renP_id (by rw [D.lt] at h; exact h)]
  | .loc k, h => by rw [D.lt] at h; exact absurd (of_decide_eq_true h) (Nat.not_lt_zero _)
  | .non, _ => by rw [D.ren]
  | .bl b, _ => by rw [D.ren]
  | .int i, _ => by rw [D.ren]
  | .str x, _ => by rw [D.ren]
  | .adr a, _ => by rw [D.ren]
  | .ty a, _ => by rw [D.ren]
theorem renL_id {f : Nat → Nat} : ∀ {d : List D}, ltL 0 d = true → renL f d = d
  | [], _ => by rw [renL]
  | d :: r, h => by rw [ltL] at h; rw [renL, ren_id (and_l h), renL_id (and_r h)]
theorem renF_id {f : Nat → Nat} : ∀ {d : List (Str × D)}, ltF 0 d = true → renF f d = d
  | [], _ => by rw [renF]
  | (x, d) :: r, h => by rw [ltF] at h; rw [renF, ren_id (and_l h), renF_id (and_r h)]
theorem renP_id {f : Nat → Nat} : ∀ {d : List (D × D)}, ltP 0 d = true → renP f d = d
  | [], _ => by rw [renP]
  | (a, d) :: r, h => by rw [ltP] at h; rw [renP, ren_id (and_r (and_l h)), renP_id (and_r h)]
end
mutual
theorem al_of_lt {p : Nat → Bool} : ∀ {d : D}, d.lt 0 = true → d.al p = true
  | .tup xs, h => by rw [D.al]; exact alL_of_lt (by rw [D.lt] at h; exact h)
  | .tpx xs, h => by rw [D.al]; exact alL_of_lt (by rw [D.lt] at h; exact h)
  | .lst xs, h => by rw [D.al]; exact alL_of_lt (by rw [D.lt] at h; exact h)
  | .ins C fs, h => by rw [D.al]; exact alF_of_lt (by rw [D.lt] at h; exact h)
  | .dct kvs, h => by rw [D.al]; exact alP_of_lt (by rw [D.lt] at h; exact h)
  | .loc k, h => by rw [D.lt] at h; exact absurd (of_decide_eq_true h) (Nat.not_lt_zero _)
  | .non, _ => by simp only [D.al]
  | .bl b, _ => by simp only [D.al]
  | .int i, _ => by simp only [D.al]
  | .str x, _ => by simp only [D.al]
  | .adr a, _ => by simp only [D.al]
  | .ty a, _ => by simp only [D.al]
theorem alL_of_lt {p : Nat → Bool} : ∀ {d : List D}, ltL 0 d = true → alL p d = true
  | [], _ => by rw [alL]
  | d :: r, h => by rw [ltL] at h; rw [alL, al_of_lt (and_l h), alL_of_lt (and_r h)]; rfl
theorem alF_of_lt {p : Nat → Bool} : ∀ {d : List (Str × D)}, ltF 0 d = true → alF p d = true
  | [], _ => by rw [alF]
  | (x, d) :: r, h => by rw [ltF] at h; rw [alF, al_of_lt (and_l h), alF_of_lt (and_r h)]; rfl
theorem alP_of_lt {p : Nat → Bool} : ∀ {d : List (D × D)}, ltP 0 d = true → alP p d = true
  | [], _ => by rw [alP]
  | (a, d) :: r, h => by rw [ltP] at h; rw [alP, al_of_lt (and_r (and_l h)), alP_of_lt (and_r h)]; rfl
end
section
variable {K : PySem.W.Frag} {H : Hp} {O O' : Av} {mu mu' : Nat → Addr} {n n' : Nat} {f : Nat → Nat} {p : Nat → Bool}
mutual
theorem Rp.ren (hO : ∀ a, ¬ O a → ¬ O' a) (hf : ∀ k, k < n → p k = true → f k < n' ∧ mu' (f k) = mu k) : ∀ {v : V} {d : D}, Rp K H O mu n v d → d.al p = true → Rp K H O' mu' n' v (d.ren f)
  | _, _, .non, _ => by rw [D.ren]; exact .non
  | _, _, .bl b, _ => by rw [D.ren]; exact .bl b
  | _, _, .int i, _ => by rw [D.ren]; exact .int i
  | _, _, .str x, _ => by rw [D.ren]; exact .str x
  | _, _, .tup h l r, q => by rw [D.ren]; exact .tup (h.imp (fun z => ⟨hO _ z.1, z.2⟩) id) (by rw [renL_len]; exact l) (Rps.renL hO hf r (by rw [D.al] at q; exact q))
  | _, _, .tpx h1 h2 hd l r, q => by rw [D.ren]; exact .tpx (hO _ h1) h2 hd (by rw [renL_len]; exact l) (Rps.renL hO hf r (by rw [D.al] at q; exact q))
  | _, _, .lst h l r, q => by rw [D.ren]; exact .lst (h.imp (fun z => ⟨hO _ z.1, z.2⟩) id) (by rw [renL_len]; exact l) (Rps.renL hO hf r (by rw [D.al] at q; exact q))
  | _, _, .ins h1 h2 r, q => by rw [D.ren]; exact .ins (hO _ h1) h2 (RpF.renF hO hf r (by rw [D.al] at q; exact q))
  | _, _, .dK h1 h2 r, q => by rw [D.ren]; exact .dK (hO _ h1) h2 (RpK.renP hO hf r (by rw [D.al] at q; exact q))
  | _, _, .dT h1 h2 r, q => by
    rw [D.ren, DL.renP, D.ren]
    exact .dT (hO _ h1) h2 (RpT.renP hO hf r (by rw [D.al, alP] at q; exact and_r q))
  | _, _, .loc (k := k) h, q => by
    rw [D.al] at q
    obtain ⟨h1, h2⟩ := hf k h q
    rw [D.ren, ← h2]
    exact .loc h1
  | _, _, .adr a, _ => by rw [D.ren]; exact .adr a
  | _, _, .ty a, _ => by rw [D.ren]; exact .ty a
theorem Rps.renL (hO : ∀ a, ¬ O a → ¬ O' a) (hf : ∀ k, k < n → p k = true → f k < n' ∧ mu' (f k) = mu k) : ∀ {v : List V} {d : List D}, Rps K H O mu n v d → alL p d = true → Rps K H O' mu' n' v (DL.renL f d)
  | _, _, .nil, _ => by rw [DL.renL]; exact .nil
  | _, _, .cons h r, q => by rw [alL] at q; rw [DL.renL]; exact .cons (Rp.ren hO hf h (and_l q)) (Rps.renL hO hf r (and_r q))
theorem RpF.renF (hO : ∀ a, ¬ O a → ¬ O' a) (hf : ∀ k, k < n → p k = true → f k < n' ∧ mu' (f k) = mu k) : ∀ {v : List (Str × V)} {d : List (Str × D)}, RpF K H O mu n v d → alF p d = true → RpF K H O' mu' n' v (DL.renF f d)
  | _, _, .nil, _ => by rw [DL.renF]; exact .nil
  | _, _, .cons h r, q => by rw [alF] at q; rw [DL.renF]; exact .cons (Rp.ren hO hf h (and_l q)) (RpF.renF hO hf r (and_r q))
theorem RpK.renP (hO : ∀ a, ¬ O a → ¬ O' a) (hf : ∀ k, k < n → p k = true → f k < n' ∧ mu' (f k) = mu k) : ∀ {v : List (Key × V)} {d : List (D × D)}, RpK K H O mu n v d → alP p d = true → RpK K H O' mu' n' v (DL.renP f d)
  | _, _, .nil, _ => by rw [DL.renP]; exact .nil
  | _, _, .cons h r, q => by rw [alP] at q; rw [DL.renP]; exact .cons (Rp.ren hO hf h (and_l q)) (RpK.renP hO hf r (and_r q))
theorem RpT.renP (hO : ∀ a, ¬ O a → ¬ O' a) (hf : ∀ k, k < n → p k = true → f k < n' ∧ mu' (f k) = mu k) : ∀ {v : List (List Key × V)} {d : List (D × D)}, RpT K H O mu n v d → alP p d = true → RpT K H O' mu' n' v (DL.renP f d)
  | _, _, .nil, _ => by rw [DL.renP]; exact .nil
  | _, _, .cons h r, q => by rw [alP] at q; rw [DL.renP]; exact .cons (Rp.ren hO hf h (and_l q)) (RpT.renP hO hf r (and_r q))
end
theorem Con.ren {o : HO} {d : D} (hO : ∀ a, ¬ O a → ¬ O' a) (hf : ∀ k, k < n → p k = true → f k < n' ∧ mu' (f k) = mu k) (h : Con K H O mu n o d) (q : d.al p = true) : Con K H O' mu' n' o (d.ren f) := by
  cases d with
  | lst ds => obtain ⟨vs, e, l, r⟩ := h; rw [D.ren]; exact ⟨vs, e, by rw [renL_len]; exact l, r.renL hO hf (by rw [D.al] at q; exact q)⟩
  | ins C fs => obtain ⟨dx, fvs, e, r⟩ := h; rw [D.ren]; exact ⟨dx, fvs, e, r.renF hO hf (by rw [D.al] at q; exact q)⟩
  | dct ds =>
    rw [D.ren]
    rcases h with ⟨vs, e, r⟩ | ⟨vs, es, e, e2, r⟩
    · exact .inl ⟨vs, e, r.renP hO hf (by rw [D.al] at q; exact q)⟩
    · subst e2
      refine .inr ⟨vs, DL.renP f es, e, by rw [DL.renP, D.ren], r.renP hO hf (by rw [D.al, alP] at q; exact and_r q)⟩
  | non => exact h.elim
  | bl b => exact h.elim
  | int i => exact h.elim
  | str x => exact h.elim
  | tup ds => exact h.elim
  | tpx ds => exact h.elim
  | loc k => exact h.elim
  | adr k => exact h.elim
  | ty k => exact h.elim
end
def setAll : List D → List Nat → List D → List D
  | M, k :: ks, c :: cs => setAll (M.set k c) ks cs
  | M, _, _ => M
theorem setAll_len : ∀ (ks : List Nat) (cs M : List D), (setAll M ks cs).length = M.length
  | [], cs, M => by cases cs <;> rfl
  | k :: ks, [], M => rfl
  | k :: ks, c :: cs, M => by rw [setAll, setAll_len ks cs, List.length_set]
theorem setAll_out : ∀ {ks : List Nat} {cs M : List D} {k : Nat}, k ∉ ks → (setAll M ks cs)[k]? = M[k]?
  | [], cs, M, k, _ => by cases cs <;> rfl
  | j :: ks, [], M, k, _ => rfl
  | j :: ks, c :: cs, M, k, h => by
    rw [setAll, setAll_out (fun q => h (List.mem_cons_of_mem _ q)), List.getElem?_set_ne (fun e => h (by rw [e]; exact List.mem_cons_self))]
theorem setAll_in : ∀ {ks : List Nat} {cs M : List D} {k j : Nat} {c : D}, ks.Nodup → k < M.length → ks[j]? = some k → cs[j]? = some c → (setAll M ks cs)[k]? = some c
  | [], cs, M, k, j, c, _, _, h, _ => by cases h
  | i :: ks, [], M, k, j, c, _, _, _, h => by cases h
  | i :: ks, c' :: cs, M, k, 0, c, hn, hk, h1, h2 => by
    have e1 := Option.some.inj h1
    have e2 := Option.some.inj h2
    subst e1 e2
    rw [setAll, setAll_out (List.nodup_cons.mp hn).1, List.getElem?_set_self hk]
  | i :: ks, c' :: cs, M, k, j + 1, c, hn, hk, h1, h2 => by
    rw [setAll]
    exact setAll_in (List.nodup_cons.mp hn).2 (by rw [List.length_set]; exact hk) (by simpa using h1) (by simpa using h2)
def fwd (ks : List Nat) (k : Nat) : Nat := ks.idxOf k
def bck (ks : List Nat) (n j : Nat) : Nat := if j < ks.length then ks.getD j 0 else n + (j - ks.length)
def mergeM (M : List D) (ks : List Nat) (Mc : List D) : List D := setAll M ks (renL (bck ks M.length) Mc) ++ (renL (bck ks M.length) Mc).drop ks.length
def frameM (M : List D) (ks : List Nat) : List D := ks.map fun k => (M.getD k .non).ren (fwd ks)
def renX (f : Nat → Nat) (x : Exn) : Exn := (x.1, x.2.map (renF f))
def inKs (ks : List Nat) : Nat → Bool := fun k => ks.contains k
def wCallM (P : PD) (wa : TDa) : TDe := fun xc rho M Phi => wa xc rho M fun ds M1 => ∃ ks : List Nat, ks.Nodup ∧ (∀ k, k ∈ ks → k < M1.length) ∧ alL (inKs ks) ds = true ∧ (∀ k, k ∈ ks → (M1.getD k .non).al (inKs ks) = true) ∧
  P (renL (fwd ks) ds) (frameM M1 ks) ⟨fun d Mc => Phi (d.ren (bck ks M1.length)) (mergeM M1 ks Mc), fun x Mc => xc (renX (bck ks M1.length) x) rho (mergeM M1 ks Mc)⟩
theorem renL_get {f : Nat → Nat} : ∀ {l : List D} {i : Nat}, (renL f l)[i]? = (l[i]?).map (D.ren f)
  | [], i => by rw [renL]; rfl
  | d :: r, 0 => by rw [renL]; rfl
  | d :: r, i + 1 => by rw [renL, List.getElem?_cons_succ, List.getElem?_cons_succ]; exact renL_get
section
variable {K : PySem.W.Frag} {T : TabT} {O0 : Av} {S S' : Sto} {ks : List Nat}
def offK (O : Av) (S : Sto) (ks : List Nat) : Av := fun a => O a ∧ ¬ ∃ k, k ∈ ks ∧ S.mu k = a
/-- what a callee sees: the things at ks -/
def Sto.fr (S : Sto) (ks : List Nat) : Sto := ⟨S.H, fun j => S.mu (ks.getD j 0), frameM S.M ks⟩
theorem fr_len : (S.fr ks).M.length = ks.length := by show (frameM S.M ks).length = _; unfold frameM; rw [List.length_map]
theorem getD_mem {j : Nat} (h : j < ks.length) : ks.getD j 0 ∈ ks := by
  rw [List.getD_eq_getElem?_getD, List.getElem?_eq_getElem h]
  exact List.getElem_mem h
theorem fr_own (hk : ∀ k, k ∈ ks → k < S.M.length) {a : Addr} : (S.fr ks).own a ↔ ∃ k, k ∈ ks ∧ S.mu k = a := by
  constructor
  · rintro ⟨j, hj, e⟩
    rw [fr_len] at hj
    exact ⟨_, getD_mem hj, e⟩
  · rintro ⟨k, hm, e⟩
    refine ⟨ks.idxOf k, by rw [fr_len]; exact List.idxOf_lt_length_of_mem hm, ?_⟩
    show S.mu (ks.getD (ks.idxOf k) 0) = a
    rw [List.getD_eq_getElem?_getD, List.getElem?_eq_getElem (List.idxOf_lt_length_of_mem hm), List.getElem_idxOf]
    exact e
theorem fr_O (hk : ∀ k, k ∈ ks → k < S.M.length) {a : Addr} : (S.fr ks).O (offK (S.O O0) S ks) a ↔ S.O O0 a := by
  constructor
  · rintro (q | q)
    · exact q.1
    · obtain ⟨k, hm, e⟩ := (fr_own hk).mp q
      exact .inr ⟨k, hk k hm, e⟩
  · intro q
    by_cases h : ∃ k, k ∈ ks ∧ S.mu k = a
    · exact .inr ((fr_own hk).mpr h)
    · exact .inl ⟨q, h⟩
theorem fwd_ok (hk : ∀ k, k ∈ ks → k < S.M.length) : ∀ k, k < S.M.length → inKs ks k = true → fwd ks k < (S.fr ks).M.length ∧ (S.fr ks).mu (fwd ks k) = S.mu k := fun k _ h => by
  have hm : k ∈ ks := by unfold inKs at h; simpa using h
  refine ⟨by rw [fr_len]; exact List.idxOf_lt_length_of_mem hm, ?_⟩
  show S.mu (ks.getD (ks.idxOf k) 0) = S.mu k
  rw [List.getD_eq_getElem?_getD, List.getElem?_eq_getElem (List.idxOf_lt_length_of_mem hm), List.getElem_idxOf]
  rfl
theorem SOk.fr (ok : SOk K O0 T S) (hn : ks.Nodup) (hk : ∀ k, k ∈ ks → k < S.M.length) (hc : ∀ k, k ∈ ks → (S.M.getD k .non).al (inKs ks) = true) : SOk K (offK (S.O O0) S ks) T (S.fr ks) where
  obj := fun j d e => by
    have e' : (ks.map fun k => (S.M.getD k .non).ren (fwd ks))[j]? = some d := e
    rw [List.getElem?_map] at e'
    cases hj : ks[j]? with
    | none => rw [hj] at e'; cases e'
    | some k =>
      rw [hj] at e'
      have e2 := Option.some.inj e'
      subst e2
      have hm : k ∈ ks := List.mem_of_getElem? hj
      have hl := hk k hm
      have eM : S.M[k]? = some (S.M.getD k .non) := by rw [List.getD_eq_getElem?_getD, List.getElem?_eq_getElem hl]; rfl
      obtain ⟨o, h1, c⟩ := ok.obj k _ eM
      have em : (S.fr ks).mu j = S.mu k := by
        show S.mu (ks.getD j 0) = S.mu k
        rw [List.getD_eq_getElem?_getD, hj]
        rfl
      rw [em]
      exact ⟨o, h1, c.ren (fun a n q => n ((fr_O hk).mp q)) (fwd_ok hk) (hc k hm)⟩
  inj := fun i j hi hj e => by
    rw [fr_len] at hi hj
    have e' : S.mu (ks.getD i 0) = S.mu (ks.getD j 0) := e
    have q := ok.inj _ _ (hk _ (getD_mem hi)) (hk _ (getD_mem hj)) e'
    rw [List.getD_eq_getElem?_getD, List.getD_eq_getElem?_getD, List.getElem?_eq_getElem hi, List.getElem?_eq_getElem hj] at q
    exact (List.getElem_inj hn).mp q
  out := fun j hj q => by
    rw [fr_len] at hj
    exact q.2 ⟨_, getD_mem hj, rfl⟩
  dom := fun a q => by
    rcases q.1 with z | ⟨k, hk', e⟩
    · exact ok.dom a z
    · rw [← e]; exact ok.there hk'
  tab := ok.tab
def Sto.bk (S S' : Sto) (ks : List Nat) : Sto := ⟨S'.H, fun k => if k < S.M.length then S.mu k else S'.mu (k - S.M.length + ks.length), mergeM S.M ks S'.M⟩
theorem bk_len (hl : ks.length ≤ S'.M.length) : (S.bk S' ks).M.length = S.M.length + (S'.M.length - ks.length) := by
  show (mergeM S.M ks S'.M).length = _
  unfold mergeM
  rw [List.length_append, setAll_len, List.length_drop, renL_len]
theorem Step.bk (s : Step (S.fr ks) S') (hk : ∀ k, k ∈ ks → k < S.M.length) : Step S (S.bk S' ks) := by
  have hl : ks.length ≤ S'.M.length := by have := s.le; rw [fr_len] at this; exact this
  refine ⟨fun a o h n t => s.keep a o h (fun q => ?_) t, s.dom, fun k h => if_pos h, by rw [bk_len hl]; omega, fun k h1 h2 => ?_⟩
  · obtain ⟨k, hm, e⟩ := (fr_own hk).mp q
    exact n ⟨k, hk k hm, e⟩
  · rw [bk_len hl] at h2
    show S.H (if k < S.M.length then S.mu k else S'.mu (k - S.M.length + ks.length)) = none
    rw [if_neg (by omega)]
    exact s.new _ (by rw [fr_len]; omega) (by omega)
theorem bk_O (s : Step (S.fr ks) S') (hk : ∀ k, k ∈ ks → k < S.M.length) {a : Addr} : S'.O (offK (S.O O0) S ks) a ↔ (S.bk S' ks).O O0 a := by
  have hl : ks.length ≤ S'.M.length := by have := s.le; rw [fr_len] at this; exact this
  have st := s.bk hk
  constructor
  · rintro (q | ⟨j, hj, e⟩)
    · rcases q.1 with z | z
      · exact .inl z
      · exact .inr (st.to_own z)
    · by_cases h : j < ks.length
      · refine .inr (st.to_own ⟨_, hk _ (getD_mem h), ?_⟩)
        rw [s.mu j (by rw [fr_len]; exact h)] at e
        exact e
      · refine .inr ⟨S.M.length + (j - ks.length), by rw [bk_len hl]; omega, ?_⟩
        show (if S.M.length + (j - ks.length) < S.M.length then _ else S'.mu (S.M.length + (j - ks.length) - S.M.length + ks.length)) = a
        rw [if_neg (by omega), show S.M.length + (j - ks.length) - S.M.length + ks.length = j by omega]
        exact e
  · rintro (q | ⟨k, hk2, e⟩)
    · by_cases h : ∃ k, k ∈ ks ∧ S.mu k = a
      · exact .inr (s.to_own ((fr_own hk).mpr h))
      · exact .inl ⟨.inl q, h⟩
    · rw [bk_len hl] at hk2
      have e' : (if k < S.M.length then S.mu k else S'.mu (k - S.M.length + ks.length)) = a := e
      by_cases h : k < S.M.length
      · rw [if_pos h] at e'
        by_cases h2 : ∃ k, k ∈ ks ∧ S.mu k = a
        · exact .inr (s.to_own ((fr_own hk).mpr h2))
        · exact .inl ⟨.inr ⟨k, h, e'⟩, h2⟩
      · rw [if_neg h] at e'
        exact .inr ⟨_, by omega, e'⟩
theorem bck_ok (s : Step (S.fr ks) S') (hk : ∀ k, k ∈ ks → k < S.M.length) : ∀ j, j < S'.M.length → (fun _ => true) j = true → bck ks S.M.length j < (S.bk S' ks).M.length ∧ (S.bk S' ks).mu (bck ks S.M.length j) = S'.mu j := fun j hj _ => by
  have hl : ks.length ≤ S'.M.length := by have := s.le; rw [fr_len] at this; exact this
  rw [bk_len hl]
  unfold bck
  by_cases h : j < ks.length
  · rw [if_pos h]
    have h2 := hk _ (getD_mem h)
    refine ⟨by omega, ?_⟩
    show (if ks.getD j 0 < S.M.length then S.mu (ks.getD j 0) else _) = _
    rw [if_pos h2, s.mu j (by rw [fr_len]; exact h)]
    rfl
  · rw [if_neg h]
    refine ⟨by omega, ?_⟩
    show (if S.M.length + (j - ks.length) < S.M.length then _ else S'.mu (S.M.length + (j - ks.length) - S.M.length + ks.length)) = _
    rw [if_neg (by omega), show S.M.length + (j - ks.length) - S.M.length + ks.length = j by omega]
mutual
theorem al_true : ∀ (d : D), d.al (fun _ => true) = true
  | .tup xs => by rw [D.al]; exact alL_true xs
  | .tpx xs => by rw [D.al]; exact alL_true xs
  | .lst xs => by rw [D.al]; exact alL_true xs
  | .ins C fs => by rw [D.al]; exact alF_true fs
  | .dct kvs => by rw [D.al]; exact alP_true kvs
  | .loc k => by rw [D.al]
  | .non => by simp only [D.al]
  | .bl b => by simp only [D.al]
  | .int i => by simp only [D.al]
  | .str x => by simp only [D.al]
  | .adr a => by simp only [D.al]
  | .ty a => by simp only [D.al]
theorem alL_true : ∀ (d : List D), alL (fun _ => true) d = true
  | [] => by rw [alL]
  | d :: r => by rw [alL, al_true d, alL_true r]; rfl
theorem alF_true : ∀ (d : List (Str × D)), alF (fun _ => true) d = true
  | [] => by rw [alF]
  | (x, d) :: r => by rw [alF, al_true d, alF_true r]; rfl
theorem alP_true : ∀ (d : List (D × D)), alP (fun _ => true) d = true
  | [] => by rw [alP]
  | (x, d) :: r => by rw [alP, al_true d, alP_true r]; rfl
end
theorem SOk.bk (ok : SOk K O0 T S) (ok' : SOk K (offK (S.O O0) S ks) T S') (s : Step (S.fr ks) S') (hn : ks.Nodup) (hk : ∀ k, k ∈ ks → k < S.M.length) : SOk K O0 T (S.bk S' ks) := by
  have hl : ks.length ≤ S'.M.length := by have := s.le; rw [fr_len] at this; exact this
  have st := s.bk hk
  have obj' : ∀ j c, S'.M[j]? = some c → At K (S.bk S' ks).H ((S.bk S' ks).O O0) (S.bk S' ks).mu (S.bk S' ks).M.length (S'.mu j) (c.ren (bck ks S.M.length)) := fun j c e => by
    obtain ⟨o, h1, cc⟩ := ok'.obj j c e
    exact ⟨o, h1, cc.ren (fun a n q => n ((bk_O s hk).mpr q)) (bck_ok s hk) (al_true c)⟩
  have hm1 : ∀ k, k < S.M.length → (S.bk S' ks).mu k = S.mu k := fun k h => if_pos h
  have hm2 : ∀ k, ¬ k < S.M.length → (S.bk S' ks).mu k = S'.mu (k - S.M.length + ks.length) := fun k h => if_neg h
  refine ⟨fun k d e => ?_, fun i j hi hj e => ?_, fun k h => ?_, fun a q => st.dom a (ok.dom a q), ok'.tab⟩
  · have e' : (setAll S.M ks (renL (bck ks S.M.length) S'.M) ++ (renL (bck ks S.M.length) S'.M).drop ks.length)[k]? = some d := e
    by_cases hkl : k < S.M.length
    · rw [List.getElem?_append_left (by rw [setAll_len]; exact hkl)] at e'
      rw [hm1 k hkl]
      by_cases hm : k ∈ ks
      · have hj := List.idxOf_lt_length_of_mem hm
        have e1 : ks[ks.idxOf k]? = some k := by rw [List.getElem?_eq_getElem hj, List.getElem_idxOf]
        have e2 : S'.M[ks.idxOf k]? = some S'.M[ks.idxOf k] := List.getElem?_eq_getElem (by omega)
        have e3 : (renL (bck ks S.M.length) S'.M)[ks.idxOf k]? = some (S'.M[ks.idxOf k].ren (bck ks S.M.length)) := by rw [renL_get, e2]; rfl
        rw [setAll_in hn hkl e1 e3] at e'
        have e4 := Option.some.inj e'
        subst e4
        have q := obj' _ _ e2
        have em : S'.mu (ks.idxOf k) = S.mu k := by
          rw [s.mu _ (by rw [fr_len]; exact hj)]
          show S.mu (ks.getD (ks.idxOf k) 0) = _
          rw [List.getD_eq_getElem?_getD, e1]
          rfl
        rw [em] at q
        exact q
      · rw [setAll_out hm] at e'
        have q := ok.obj k d e'
        refine q.carry (st.carry O0) ?_
        obtain ⟨o, h1, c⟩ := q
        rw [h1]
        refine s.keep _ o h1 (fun z => ?_) c.notbl
        obtain ⟨k2, hm2, e2⟩ := (fr_own hk).mp z
        exact hm (by rw [← ok.inj k2 k (hk k2 hm2) hkl e2]; exact hm2)
    · rw [List.getElem?_append_right (by rw [setAll_len]; omega), setAll_len, List.getElem?_drop, renL_get] at e'
      cases e2 : S'.M[ks.length + (k - S.M.length)]? with
      | none => rw [e2] at e'; cases e'
      | some c =>
        rw [e2] at e'
        have e4 := Option.some.inj e'
        subst e4
        have q := obj' _ _ e2
        rw [hm2 k hkl, show k - S.M.length + ks.length = ks.length + (k - S.M.length) by omega]
        exact q
  · rw [bk_len hl] at hi hj
    have free : ∀ k, ¬ k < S.M.length → k < S.M.length + (S'.M.length - ks.length) → S.H ((S.bk S' ks).mu k) = none := fun k h1 h2 => st.new k (Nat.not_lt.mp h1) (by rw [bk_len hl]; exact h2)
    by_cases h1 : i < S.M.length
    · by_cases h2 : j < S.M.length
      · rw [hm1 i h1, hm1 j h2] at e
        exact ok.inj i j h1 h2 e
      · have := free j h2 hj
        rw [← e, hm1 i h1] at this
        exact absurd this (ok.there h1)
    · by_cases h2 : j < S.M.length
      · have := free i h1 hi
        rw [e, hm1 j h2] at this
        exact absurd this (ok.there h2)
      · rw [hm2 i h1, hm2 j h2] at e
        have := ok'.inj _ _ (by omega) (by omega) e
        omega
  · rw [bk_len hl] at h
    by_cases h1 : k < S.M.length
    · rw [hm1 k h1]
      exact ok.out k h1
    · intro q
      have := st.new k (Nat.not_lt.mp h1) (by rw [bk_len hl]; exact h)
      exact ok.dom _ q this
end
theorem ti_callM {X : Cx} {T : TabT} {W : WX} {P : PD} {wa : TDa} : ∀ σ H Q, tD X.K T W (wCallM P wa) σ H Q → tCallS (spD X.K T P) (WE W) (tA X.K T W wa) σ H Q := by
  rintro σ H Q ⟨G, S, rho, xc, Phi, rfl, rel, ge, w, fin⟩
  refine ⟨G, S, rho, xc, _, rfl, rel, ge, w, fun ds S1 vs w1 s1 rel1 r1 => ?_⟩
  obtain ⟨ks, hn, hk, ha, hc, p⟩ := w1
  refine ⟨offK (S1.O G.O0) S1 ks, S1.fr ks, _, _, rfl, rel1.ok.fr hn hk hc, r1.renL (fun a n q => n ((fr_O hk).mp q)) (fwd_ok hk) ha, p, ?_, ?_⟩
  · intro d S' v q s' ok' r'
    have st := s'.bk hk
    exact fin _ (S1.bk S' ks) v q (s1.trans st) (rel1.step' st (rel1.ok.bk ok' s' hn hk)) (r'.ren (fun a n q => n ((bk_O s' hk).mpr q)) (bck_ok s' hk) (al_true d))
  · intro x S' cls dx q s' ok' xr
    have st := s'.bk hk
    refine ge (renX (bck ks S1.M.length) x) (S1.bk S' ks) rho σ cls dx q (rel1.step' st (rel1.ok.bk ok' s' hn hk)) ?_
    obtain ⟨e1, e2⟩ := xr
    refine ⟨e1, ?_⟩
    obtain ⟨C, fs⟩ := x
    cases fs with
    | none => exact e2
    | some fs =>
      obtain ⟨a, fvs, e3, e4, r⟩ := e2
      exact ⟨a, fvs, e3, e4, r.renF (fun a n q => n ((bk_O s' hk).mpr q)) (bck_ok s' hk) (alF_true fs)⟩
section
variable {X : Cx} {T : TabT} {W : WX} {e : Expr} {es : List Expr} {wa : TDa} {k : Nat} {f : Addr} {fd : FuncData} {ps : List Str} {x : Str} {p pos : Pos} {P : PD}
theorem ed_callM (F : FnOk X.prog X.w X.K X.mg X.base (L2.CX X.prog X.w) k f fd ps (spD X.K T P)) (hr : Room k X.A) (hg : Gl X x) (hm : X.mg x = some (.ref f)) (hk : PySem.W.keepIn X.K (.ref f) = true) (hb : Binds X.K fd ps []) (tk : Takes X W)
    (ha : EA X T W (e :: es) wa) (hdb : (x == ("__debug__" : Str)) = false := by decide) (he : starEach (e :: es) X.env = (false, eval e X.env) :: starEach es X.env := by rfl) (hpl : (backTo pos (starEach es X.env)).any (·.1) = false := by rfl) :
    ED X T W (.Call (.Name x p) (e :: es) [] pos) (wCallM P wa) :=
  ⟨pe_of (pe_callS F hr hg hm hk hb (fun σ => passAt tk σ) ha.run hdb he hpl) ti_callM⟩
end
end DL

namespace DL
open PySem L2
/-! ### calls at the caller's slots -/
section
open PySem.Spec PyProof.Rows
variable {X : Cx} {CX : CXT} {k : Nat} {f C : Addr} {fd : FuncData} {ps : List Str} {sp : Sp} {E : L2.St → XK} {x m : Str} {p pos apos : Pos} {e o : Expr} {es : List Expr} {ta : TE} {t : TA}
theorem pe_callS0 (F : FnOk X.prog X.w X.K X.mg X.base CX k f fd ps sp) (hr : Room k X.A) (hg : Gl X x) (hm : X.mg x = some (.ref f)) (hk : PySem.W.keepIn X.K (.ref f) = true) (hb : Binds X.K fd ps []) (hx : ∀ σ, PassesAt CX X σ (E σ))
    (hdb : (x == ("__debug__" : Str)) = false := by decide) : PE X (.Call (.Name x p) [] [] pos) (tCallS sp E tNil) :=
  ⟨fun pins s σ H Q I h => wpAny_Call_Name_kw (ld_glob I hg hm (PySem.W.callWith_K0 I.kIn hk (run_fnS (us := []) F hr hb (hx σ) I .nil h)) hdb)⟩
def tMethS (C : Addr) (m : Str) (sp : Sp) (E : L2.St → XK) (ta : TE) (t : TA) : TE := fun σ H Q => ta σ H fun x H1 => ∃ a dx fs, x = .ref a ∧ H1 a = some (.ins C dx fs) ∧ fs.lookup m = none ∧ t σ H1 fun vs H2 => sp (x :: vs) H2 Q (E σ)
theorem pe_methS {pl : Sem Bool} (he : PE X o ta) (c : Cls X.K C) (hm : Meth X.K C m f) (F : FnOk X.prog X.w X.K X.mg X.base CX k f fd ps sp) (hr : Room k X.A) (hb : Binds X.K fd ps []) (hx : ∀ σ, PassesAt CX X σ (E σ)) (ha : PA X (e :: es) t)
    (hst : starEach (e :: es) X.env = (false, eval e X.env) :: starEach es X.env := by rfl) (hpl : (backTo pos (starEach es X.env)).any (·.1) = false := by rfl)
    (ht : eval (.Call (.Attribute o m apos) (e :: es) [] pos) X.env = (do let ov ← eval o X.env; standAt apos.atName; let (f, first) ← holding [ov] (getMethod ov m pl); callWith pos f first (backTo pos (starEach (e :: es) X.env)) (backToKw pos (keywordEach [] X.env))) := by rfl) :
    PE X (.Call (.Attribute o m apos) (e :: es) [] pos) (tMethS C m sp E ta t) := by
  refine ⟨fun pins s σ H Q I h => PySem.W.methodCall_KW (pl := pl) (thn (he.run pins s σ H _ I h) fun u s1 ⟨y, H1, I1, ry, a, dx, fs, ey, ea, l, q⟩ => ?_) ht⟩
  subst ey
  cases (show u = Value.ref a from ry)
  refine getmeth_ok I1 ea c hm l (PySem.W.callWith_K (first := [.ref a]) (h₀ := X.base) I.ok.mod.kin hm.kp (thn (ha.run pos pins s1 σ H1 _ I1 q) fun us s2 ⟨vs, H2, I2, r, q2⟩ => ⟨I2.kIn, ?_⟩) hst hpl)
  exact run_fnS (us := .ref a :: us) (vs := .ref a :: vs) F hr hb (hx σ) I2 (.cons rfl r) q2
theorem pe_methS0 {pl : Sem Bool} (he : PE X o ta) (c : Cls X.K C) (hm : Meth X.K C m f) (F : FnOk X.prog X.w X.K X.mg X.base CX k f fd ps sp) (hr : Room k X.A) (hb : Binds X.K fd ps []) (hx : ∀ σ, PassesAt CX X σ (E σ))
    (ht : eval (.Call (.Attribute o m apos) [] [] pos) X.env = (do let ov ← eval o X.env; standAt apos.atName; let (f, first) ← holding [ov] (getMethod ov m pl); callWith pos f first (backTo pos (starEach [] X.env)) (backToKw pos (keywordEach [] X.env))) := by rfl) :
    PE X (.Call (.Attribute o m apos) [] [] pos) (tMethS C m sp E ta tNil) := by
  refine ⟨fun pins s σ H Q I h => PySem.W.methodCall_KW (pl := pl) (thn (he.run pins s σ H _ I h) fun u s1 ⟨y, H1, I1, ry, a, dx, fs, ey, ea, l, q⟩ => ?_) ht⟩
  subst ey
  cases (show u = Value.ref a from ry)
  exact getmeth_ok I1 ea c hm l (PySem.W.callWith_K0 (first := [.ref a]) I1.kIn hm.kp (run_fnS (us := [.ref a]) (vs := [.ref a]) F hr hb (hx σ) I1 (.cons rfl .nil) q))
def tMakeS (C : Addr) (sp : Sp) (E : L2.St → XK) (t : TA) : TE := fun σ H Q => t σ H fun vs H1 => ∀ x dx, H1 x = none → H1 dx = none → dx ≠ x → sp (.ref x :: vs) (upd (upd H1 dx (.own x)) x (.ins C dx [])) (fun v H2 => v = .non ∧ Q (.ref x) H2) (E σ)
theorem run_makeS {pins : List (Addr × Obj)} {σ : L2.St} {H : Hp} {s : Shared} {Q : VK} {us : List Value} {vs : List V} (M : Mk X.K C f) (F : FnOk X.prog X.w X.K X.mg X.base CX k f fd ps sp) (hr : Room (k + 1) X.A) (hb : Binds X.K fd ps [])
    (hx : PassesAt CX X σ (E σ)) (I : Inv X pins σ H s) (r : Vals vs us)
    (h : ∀ x dx, H x = none → H dx = none → dx ≠ x → sp (.ref x :: vs) (upd (upd H dx (.own x)) x (.ins C dx [])) (fun v H2 => v = .non ∧ Q (.ref x) H2) (E σ)) : wpAny (model X.prog X.w) X.A (call (.ref C) us) (EP X pins σ Q) X.xe s := by
  obtain ⟨y, hy⟩ : ∃ y, y = s.heap.objs.size + 1 := ⟨_, rfl⟩
  have hq := h (s.heap.objs.size + 1) s.heap.objs.size (I.hok.fresh (Nat.le_succ _)) (I.hok.fresh (Nat.le_refl _)) (Nat.ne_of_lt (Nat.lt_succ_self _))
  have J := Inv.made (C := C) I
  have rr : Vals (V.ref (s.heap.objs.size + 1) :: vs) (Value.ref (s.heap.objs.size + 1) :: us) := .cons rfl r
  have hl : ((Value.ref (s.heap.objs.size + 1) :: us) ++ []).length = ps.length := by rw [List.append_nil, ← rr.length]; exact F.len _ _ _ _ hq
  have bb := hb _ (Value.ref (s.heap.objs.size + 1) :: us) J.kIn hl
  rw [List.append_nil] at bb
  refine wpAny_call (make_map (f := f) I.kIn M.makes M.init (beq_iff_eq.mp M.fn) (codeAny_mono (F.run _ X.stack _ _ ⟨_, []⟩ _ _ _ (E σ) (hr.make C us []) (J.env0.make C us []) bb rr hq) fun r s' z => ?_))
  cases r with
  | error e => exact hx pins _ _ e s' J z
  | ok fl =>
    cases fl with
    | ret u =>
      obtain ⟨v, H', I3, rv, ev, q3⟩ := J.after z
      subst ev
      exact ⟨rv, ⟨V.ref (s.heap.objs.size + 1), H', I3, rfl, q3⟩⟩
    | next => exact z.elim
    | brk => exact z.elim
    | cont => exact z.elim
theorem pe_makeS (M : Mk X.K C f) (F : FnOk X.prog X.w X.K X.mg X.base CX k f fd ps sp) (hr : Room (k + 1) X.A) (hg : Gl X x) (hm : X.mg x = some (.ref C)) (hb : Binds X.K fd ps []) (hx : ∀ σ, PassesAt CX X σ (E σ)) (ha : PA X (e :: es) t)
    (hdb : (x == ("__debug__" : Str)) = false := by decide) (he : starEach (e :: es) X.env = (false, eval e X.env) :: starEach es X.env := by rfl) (hpl : (backTo pos (starEach es X.env)).any (·.1) = false := by rfl) :
    PE X (.Call (.Name x p) (e :: es) [] pos) (tMakeS C sp E t) :=
  ⟨fun pins s σ H Q I h => wpAny_Call_Name_kw (ld_glob I hg hm (PySem.W.callWith_K (h₀ := X.base) I.ok.mod.kin M.kp (thn (ha.run pos pins s σ H _ I h) fun us s1 ⟨vs, H1, I1, r, q⟩ => ⟨I1.kIn, run_makeS M F hr hb (hx σ) I1 r q⟩) he hpl) hdb)⟩
theorem pe_makeS0 (M : Mk X.K C f) (F : FnOk X.prog X.w X.K X.mg X.base CX k f fd ps sp) (hr : Room (k + 1) X.A) (hg : Gl X x) (hm : X.mg x = some (.ref C)) (hb : Binds X.K fd ps []) (hx : ∀ σ, PassesAt CX X σ (E σ))
    (hdb : (x == ("__debug__" : Str)) = false := by decide) : PE X (.Call (.Name x p) [] [] pos) (tMakeS C sp E tNil) :=
  ⟨fun pins s σ H Q I h => wpAny_Call_Name_kw (ld_glob I hg hm (PySem.W.callWith_K0 I.kIn M.kp (run_makeS (us := []) M F hr hb (hx σ) I .nil h)) hdb)⟩
/-- X(), an own exception class without own __init__ -/
theorem pmk_own0 {bmB : List Value} {B newId initId : String} (F : ExcBaseFacts B newId initId bmB) (q : PySem.W.excIn X.K C bmB newId = true) (gC : X.mg x = some (.ref C)) (kC : PySem.W.keepIn X.K (.ref C) = true) (r : Raises X (.ref C)) (hg : Gl X x)
    (hdb : (x == ("__debug__" : Str)) = false := by decide) : PMk X (.Call (.Name x p) [] [] pos) (fun _ H Q => Q (.ref C) none H) := fun pins s σ H Q I h =>
  wpAny_Call_Name_kw (ld_glob I hg gC (PySem.W.callWith_K0 I.kIn kC (by
    obtain ⟨bm, N, nm, qn, bs, hdct, sn, sub, ab, col, dd, k0, k1, k2, k3, k5, mN, hC, hN, hni, T⟩ := exc_obj I.kIn q
    show wpAny _ _ (call (.ref C) []) _ _ _
    exact wpAny_call_exc_subT F T hC hN hni (fun h' e hm => mk_of I hm r h (I.hok.gone hm.new)) (Nat.zero_le _))) hdb)
end

/-! ### calls by data, again -/
def callM (P : PD) (xc : XC) (rho : Rho) (ds : List D) (M1 : List D) (Phi : D → List D → Prop) : Prop := ∃ ks : List Nat, ks.Nodup ∧ (∀ k, k ∈ ks → k < M1.length) ∧ alL (inKs ks) ds = true ∧ (∀ k, k ∈ ks → (M1.getD k .non).al (inKs ks) = true) ∧
  P (renL (fwd ks) ds) (frameM M1 ks) ⟨fun d Mc => Phi (d.ren (bck ks M1.length)) (mergeM M1 ks Mc), fun x Mc => xc (renX (bck ks M1.length) x) rho (mergeM M1 ks Mc)⟩
theorem callM_sp {K : PySem.W.Frag} {T : TabT} {W : WX} {G : Ctx} {S1 : Sto} {rho : Rho} {σ : St} {xc : XC} {P : PD} {ds : List D} {vs : List V} {Phi : D → List D → Prop} {Q : VK} (rel1 : Rel K T G S1 rho σ) (ge : GE K T G W xc) (r1 : Rs K G.O0 S1 vs ds)
    (w : callM P xc rho ds S1.M Phi) (fin : ∀ d S' v, Phi d S'.M → Step S1 S' → Rel K T G S' rho σ → R K G.O0 S' v d → Q v S'.H) : spD K T P vs S1.H Q (WE W σ) := by
  obtain ⟨ks, hn, hk, ha, hc, p⟩ := w
  refine ⟨offK (S1.O G.O0) S1 ks, S1.fr ks, _, _, rfl, rel1.ok.fr hn hk hc, r1.renL (fun a n q => n ((fr_O hk).mp q)) (fwd_ok hk) ha, p, ?_, ?_⟩
  · intro d S' v q s' ok' r'
    have st := s'.bk hk
    exact fin _ (S1.bk S' ks) v q st (rel1.step' st (rel1.ok.bk ok' s' hn hk)) (r'.ren (fun a n q => n ((bk_O s' hk).mpr q)) (bck_ok s' hk) (al_true d))
  · intro x S' cls dx q s' ok' xr
    have st := s'.bk hk
    refine ge (renX (bck ks S1.M.length) x) (S1.bk S' ks) rho σ cls dx q (rel1.step' st (rel1.ok.bk ok' s' hn hk)) ?_
    obtain ⟨e1, e2⟩ := xr
    refine ⟨e1, ?_⟩
    obtain ⟨C, fs⟩ := x
    cases fs with
    | none => exact e2
    | some fs =>
      obtain ⟨a, fvs, e3, e4, r⟩ := e2
      exact ⟨a, fvs, e3, e4, r.renF (fun a n q => n ((bk_O s' hk).mpr q)) (bck_ok s' hk) (alF_true fs)⟩
def callP (f : FP) (xc : XC) (rho : Rho) (ds : List D) (M1 : List D) (Phi : D → List D → Prop) : Prop := (M1 = [] ∨ ltL 0 ds = true) ∧ f ds (fun d => Phi d M1) (fun x => xc x rho M1)
theorem callP_sp {K : PySem.W.Frag} {T : TabT} {W : WX} {G : Ctx} {S1 : Sto} {rho : Rho} {σ : St} {xc : XC} {ff : FP} {ds : List D} {vs : List V} {Phi : D → List D → Prop} {Q : VK} (rel1 : Rel K T G S1 rho σ) (ge : GE K T G W xc) (r1 : Rs K G.O0 S1 vs ds)
    (w : callP ff xc rho ds S1.M Phi) (fin : ∀ d S' v, Phi d S'.M → Step S1 S' → Rel K T G S' rho σ → R K G.O0 S' v d → Q v S'.H) : spP K T ff vs S1.H Q (WE W σ) := by
  obtain ⟨h0, p⟩ := w
  refine ⟨S1.O G.O0, S1.hid, ds, ⟨fun d M => M = [] ∧ Phi d S1.M, fun x M => M = [] ∧ xc x rho S1.M⟩, rfl, rel1.ok.hid, ?_, ⟨rfl, ?_⟩, ?_, ?_⟩
  · have q := r1.zero h0 (mu := S1.hid.mu)
    exact q.carry ⟨fun _ _ h _ _ => h, fun a _ _ h z => h ((hid_O a).mp z), fun _ _ => rfl, Nat.le_refl _⟩
  · have e1 : (fun d => ([] : List D) = [] ∧ Phi d S1.M) = fun d => Phi d S1.M := funext fun d => propext ⟨fun z => z.2, fun z => ⟨rfl, z⟩⟩
    have e2 : (fun x => ([] : List D) = [] ∧ xc x rho S1.M) = fun x => xc x rho S1.M := funext fun d => propext ⟨fun z => z.2, fun z => ⟨rfl, z⟩⟩
    show ff ds (fun d => ([] : List D) = [] ∧ Phi d S1.M) (fun x => ([] : List D) = [] ∧ xc x rho S1.M)
    rw [e1, e2]
    exact p
  · rintro d S' v ⟨hM, q⟩ s' ok' r'
    obtain ⟨st, ok2⟩ := back rel1.ok ok' s'
    exact fin d ⟨S'.H, S1.mu, S1.M⟩ v q st (rel1.step' st ok2) (back_rp hM r')
  · rintro x S' cls dx ⟨hM, q⟩ s' ok' xr
    obtain ⟨st, ok2⟩ := back rel1.ok ok' s'
    refine ge x ⟨S'.H, S1.mu, S1.M⟩ rho σ cls dx q (rel1.step' st ok2) ?_
    obtain ⟨e1, e2⟩ := xr
    refine ⟨e1, ?_⟩
    obtain ⟨C, fs⟩ := x
    cases fs with
    | none => exact e2
    | some fs =>
      obtain ⟨a, fvs, e3, e4, r⟩ := e2
      refine ⟨a, fvs, e3, e4, ?_⟩
      have e : S'.M.length = 0 := by rw [hM]; rfl
      have r2 : RpF K S'.H (S'.O (S1.O G.O0)) S'.mu 0 fvs fs := by rw [← e]; exact r
      exact r2.carry ⟨fun _ _ h _ _ => h, fun a _ _ h z => h (.inl z), fun k hk => absurd hk (Nat.not_lt_zero _), Nat.zero_le _⟩
/-- a callee's promise and how its call is read by data -/
structure Callee (K : PySem.W.Frag) (T : TabT) (sp : Sp) (c : XC → Rho → List D → List D → (D → List D → Prop) → Prop) : Prop where
  go : ∀ {W : WX} {G : Ctx} {S1 : Sto} {rho : Rho} {σ : St} {xc : XC} {ds : List D} {vs : List V} {Phi : D → List D → Prop} {Q : VK}, Rel K T G S1 rho σ → GE K T G W xc → Rs K G.O0 S1 vs ds → c xc rho ds S1.M Phi →
    (∀ d S' v, Phi d S'.M → Step S1 S' → Rel K T G S' rho σ → R K G.O0 S' v d → Q v S'.H) → sp vs S1.H Q (WE W σ)
theorem calleeM {K : PySem.W.Frag} {T : TabT} {P : PD} : Callee K T (spD K T P) (callM P) := ⟨fun r g q w f => callM_sp r g q w f⟩
theorem calleeP {K : PySem.W.Frag} {T : TabT} {f : FP} : Callee K T (spP K T f) (callP f) := ⟨fun r g q w f => callP_sp r g q w f⟩
abbrev TDc := XC → Rho → List D → List D → (D → List D → Prop) → Prop
def wCal (c : TDc) (wa : TDa) : TDe := fun xc rho M Phi => wa xc rho M fun ds M1 => c xc rho ds M1 Phi
def wSelf (C : Addr) (m : Str) (wo : TDe) (wa : TDa) : TDa := fun xc rho M Phi => wo xc rho M fun d M1 => (match insOf M1 d with
  | some (C', fs) => C' = C ∧ fs.lookup m = none
  | none => False) ∧ wa xc rho M1 fun ds M2 => Phi (d :: ds) M2
def wMake (C : Addr) (c : TDc) (wa : TDa) : TDe := fun xc rho M Phi => wa xc rho M fun ds M1 => c xc rho (.loc M1.length :: ds) (M1 ++ [.ins C []]) fun d M2 => d = .non ∧ M1.length < M2.length ∧ Phi (.loc M1.length) M2
/-- .. read inline from there on -/
def wMakeI (C : Addr) (c : TDc) (wa : TDa) : TDe := fun xc rho M Phi => wa xc rho M fun ds M1 => c xc rho (.loc M1.length :: ds) (M1 ++ [.ins C []]) fun d M2 => d = .non ∧ M1.length ≤ M2.length ∧ ltL M1.length (M2.take M1.length) = true ∧ match M2[M1.length]? with
  | some i => i.lt M1.length = true ∧ Phi i (M2.take M1.length)
  | none => False
section
variable {X : Cx} {T : TabT} {W : WX} {e o : Expr} {es : List Expr} {wo : TDe} {wa : TDa} {c : TDc} {sp : Sp} {k : Nat} {f C : Addr} {fd : FuncData} {ps : List Str} {x m : Str} {p pos apos : Pos}
theorem ti_cal (cc : Callee X.K T sp c) : ∀ σ H Q, tD X.K T W (wCal c wa) σ H Q → tCallS sp (WE W) (tA X.K T W wa) σ H Q := by
  rintro σ H Q ⟨G, S, rho, xc, Phi, rfl, rel, ge, w, fin⟩
  refine ⟨G, S, rho, xc, _, rfl, rel, ge, w, fun ds S1 vs w1 s1 rel1 r1 => ?_⟩
  exact cc.go rel1 ge r1 w1 fun d S' v q st rel' r' => fin d S' v q (s1.trans st) rel' r'
theorem ed_cal (F : FnOk X.prog X.w X.K X.mg X.base (L2.CX X.prog X.w) k f fd ps sp) (cc : Callee X.K T sp c) (hr : Room k X.A) (hg : Gl X x) (hm : X.mg x = some (.ref f)) (hk : PySem.W.keepIn X.K (.ref f) = true) (hb : Binds X.K fd ps []) (tk : Takes X W)
    (ha : EA X T W (e :: es) wa) (hdb : (x == ("__debug__" : Str)) = false := by decide) (he : starEach (e :: es) X.env = (false, eval e X.env) :: starEach es X.env := by rfl) (hpl : (backTo pos (starEach es X.env)).any (·.1) = false := by rfl) :
    ED X T W (.Call (.Name x p) (e :: es) [] pos) (wCal c wa) :=
  ⟨pe_of (pe_callS F hr hg hm hk hb (fun σ => passAt tk σ) ha.run hdb he hpl) (ti_cal cc)⟩
theorem tA_nil : ∀ σ H Q, tA X.K T W wNil σ H Q → tNil σ H Q := by
  rintro σ H Q ⟨G, S, rho, xc, Phi, rfl, rel, ge, w, fin⟩
  exact fin [] S [] w (Step.refl S) rel .nil
theorem ed_cal0 (F : FnOk X.prog X.w X.K X.mg X.base (L2.CX X.prog X.w) k f fd ps sp) (cc : Callee X.K T sp c) (hr : Room k X.A) (hg : Gl X x) (hm : X.mg x = some (.ref f)) (hk : PySem.W.keepIn X.K (.ref f) = true) (hb : Binds X.K fd ps []) (tk : Takes X W)
    (hdb : (x == ("__debug__" : Str)) = false := by decide) : ED X T W (.Call (.Name x p) [] [] pos) (wCal c wNil) :=
  ⟨pe_of (pe_callS0 F hr hg hm hk hb (fun σ => passAt tk σ) hdb) fun σ H Q h => tA_nil σ H _ (ti_cal cc σ H Q h)⟩
theorem ti_self : ∀ σ H QQ, tA X.K T W (wSelf C m wo wa) σ H QQ → tD X.K T W wo σ H fun x H1 => ∃ a dx fs, x = .ref a ∧ H1 a = some (.ins C dx fs) ∧ fs.lookup m = none ∧ tA X.K T W wa σ H1 fun vs H2 => QQ (x :: vs) H2 := by
  rintro σ H QQ ⟨G, S, rho, xc, Phi, rfl, rel, ge, w, fin⟩
  refine ⟨G, S, rho, xc, _, rfl, rel, ge, w, fun d S1 x w1 s1 rel1 r1 => ?_⟩
  obtain ⟨w1, w2⟩ := w1
  cases hi : insOf S1.M d with
  | none => rw [hi] at w1; exact w1.elim
  | some q =>
    obtain ⟨C', fs⟩ := q
    rw [hi] at w1
    obtain ⟨rfl, hl⟩ := w1
    obtain ⟨a, dx, fvs, rfl, ha, rf⟩ := r_ins rel1.ok r1 hi
    refine ⟨a, dx, fvs, rfl, ha, rf.none hl, G, S1, rho, xc, _, rfl, rel1, ge, w2, fun ds S2 vs w2 s2 rel2 r2 => ?_⟩
    exact fin _ S2 _ w2 (s1.trans s2) rel2 (.cons (s2.rp r1) r2)
theorem ed_meth {pl : Sem Bool} (ho : ED X T W o wo) (cl : Cls X.K C) (hm : Meth X.K C m f) (F : FnOk X.prog X.w X.K X.mg X.base (L2.CX X.prog X.w) k f fd ps sp) (cc : Callee X.K T sp c) (hr : Room k X.A) (hb : Binds X.K fd ps []) (tk : Takes X W) (ha : EA X T W (e :: es) wa)
    (hst : starEach (e :: es) X.env = (false, eval e X.env) :: starEach es X.env := by rfl) (hpl : (backTo pos (starEach es X.env)).any (·.1) = false := by rfl)
    (ht : eval (.Call (.Attribute o m apos) (e :: es) [] pos) X.env = (do let ov ← eval o X.env; standAt apos.atName; let (f, first) ← holding [ov] (getMethod ov m pl); callWith pos f first (backTo pos (starEach (e :: es) X.env)) (backToKw pos (keywordEach [] X.env))) := by rfl) :
    ED X T W (.Call (.Attribute o m apos) (e :: es) [] pos) (wCal c (wSelf C m wo wa)) :=
  ⟨pe_of (pe_methS ho.run cl hm F hr hb (fun σ => passAt tk σ) ha.run hst hpl ht) fun σ H Q h => ti_self σ H _ (ti_cal cc σ H Q h)⟩
theorem ed_meth0 {pl : Sem Bool} (ho : ED X T W o wo) (cl : Cls X.K C) (hm : Meth X.K C m f) (F : FnOk X.prog X.w X.K X.mg X.base (L2.CX X.prog X.w) k f fd ps sp) (cc : Callee X.K T sp c) (hr : Room k X.A) (hb : Binds X.K fd ps []) (tk : Takes X W)
    (ht : eval (.Call (.Attribute o m apos) [] [] pos) X.env = (do let ov ← eval o X.env; standAt apos.atName; let (f, first) ← holding [ov] (getMethod ov m pl); callWith pos f first (backTo pos (starEach [] X.env)) (backToKw pos (keywordEach [] X.env))) := by rfl) :
    ED X T W (.Call (.Attribute o m apos) [] [] pos) (wCal c (wSelf C m wo wNil)) := by
  refine ⟨pe_of (pe_methS0 ho.run cl hm F hr hb (fun σ => passAt tk σ) ht) fun σ H Q h => ?_⟩
  obtain ⟨G, S, rho, xc, Phi, e1, rel, ge, w, fin⟩ := ti_self σ H _ (ti_cal cc σ H Q h)
  refine ⟨G, S, rho, xc, Phi, e1, rel, ge, w, fun d S' v p s r q => ?_⟩
  obtain ⟨a, dx, fs, ev, ha, hl, z⟩ := fin d S' v p s r q
  exact ⟨a, dx, fs, ev, ha, hl, tA_nil σ _ _ z⟩
theorem made_ok {K : PySem.W.Frag} {G : Ctx} {S1 : Sto} {rho : Rho} {σ : St} {x dx : Addr} (rel1 : Rel K T G S1 rho σ) (hx : S1.H x = none) (hd : S1.H dx = none) (ne : dx ≠ x) :
    Step S1 ((S1.lay dx (.own x)).add x (.ins C dx []) (.ins C [])) ∧ Rel K T G ((S1.lay dx (.own x)).add x (.ins C dx []) (.ins C [])) rho σ ∧ R K G.O0 ((S1.lay dx (.own x)).add x (.ins C dx []) (.ins C [])) (.ref x) (.loc S1.M.length) := by
  have s1 : Step S1 (S1.lay dx (.own x)) := Step.lay hd
  have ok1 : SOk K G.O0 T (S1.lay dx (.own x)) := rel1.ok.lay hd
  have hx1 : (S1.lay dx (.own x)).H x = none := by
    show upd S1.H dx _ x = none
    rw [upd_ne (Ne.symm ne)]
    exact hx
  have s2 : Step (S1.lay dx (.own x)) ((S1.lay dx (.own x)).add x (.ins C dx []) (.ins C [])) := Step.add hx1
  have ok2 : SOk K G.O0 T ((S1.lay dx (.own x)).add x (.ins C dx []) (.ins C [])) := ok1.add hx1 ⟨dx, [], rfl, .nil⟩
  refine ⟨s1.trans s2, rel1.step' (s1.trans s2) ok2, ?_⟩
  have em : ((S1.lay dx (.own x)).add x (.ins C dx []) (.ins C [])).mu S1.M.length = x := if_pos rfl
  have lt : S1.M.length < ((S1.lay dx (.own x)).add x (.ins C dx []) (.ins C [])).M.length := by
    show S1.M.length < (S1.M ++ [_]).length
    rw [List.length_append, List.length_singleton]
    exact Nat.lt_succ_self _
  have q : R K G.O0 ((S1.lay dx (.own x)).add x (.ins C dx []) (.ins C [])) (.ref (((S1.lay dx (.own x)).add x (.ins C dx []) (.ins C [])).mu S1.M.length)) (.loc S1.M.length) := .loc lt
  rw [em] at q
  exact q
theorem ti_make (cc : Callee X.K T sp c) : ∀ σ H Q, tD X.K T W (wMake C c wa) σ H Q → tMakeS C sp (WE W) (tA X.K T W wa) σ H Q := by
  rintro σ H Q ⟨G, S, rho, xc, Phi, rfl, rel, ge, w, fin⟩
  refine ⟨G, S, rho, xc, _, rfl, rel, ge, w, fun ds S1 vs w1 s1 rel1 r1 x dx hx hd ne => ?_⟩
  obtain ⟨s2, rel2, rx⟩ := made_ok (C := C) rel1 hx hd ne
  refine cc.go rel2 ge (.cons rx (s2.rps r1)) w1 fun d S' v q st rel' r' => ?_
  obtain ⟨rfl, hl, q⟩ := q
  exact ⟨rp_non r', fin _ S' _ q ((s1.trans s2).trans st) rel' (st.rp rx)⟩
theorem ti_makeI (cc : Callee X.K T sp c) : ∀ σ H Q, tD X.K T W (wMakeI C c wa) σ H Q → tMakeS C sp (WE W) (tA X.K T W wa) σ H Q := by
  rintro σ H Q ⟨G, S, rho, xc, Phi, rfl, rel, ge, w, fin⟩
  refine ⟨G, S, rho, xc, _, rfl, rel, ge, w, fun ds S1 vs w1 s1 rel1 r1 x dx hx hd ne => ?_⟩
  obtain ⟨s2, rel2, rx⟩ := made_ok (C := C) rel1 hx hd ne
  refine cc.go rel2 ge (.cons rx (s2.rps r1)) w1 fun d S' v q st rel' r' => ?_
  obtain ⟨rfl, h1, h2, q⟩ := q
  refine ⟨rp_non r', ?_⟩
  cases hi : S'.M[S1.M.length]? with
  | none => rw [hi] at q; exact q.elim
  | some i =>
    rw [hi] at q
    have s3 : Step S1 (S'.cut S1.M.length) := (s2.trans st).cut h1 (Nat.le_refl _)
    have ok3 := rel'.ok.cut h1 h2
    have f : FrzR S1.M.length S'.M (.loc S1.M.length) i := .con hi (Nat.le_refl _) q.1
    exact fin _ (S'.cut S1.M.length) _ q.2 (s1.trans s3) (rel1.step' s3 ok3) (f.rp rel'.ok h1 (st.rp rx))
theorem ed_make (M : Mk X.K C f) (F : FnOk X.prog X.w X.K X.mg X.base (L2.CX X.prog X.w) k f fd ps sp) (cc : Callee X.K T sp c) (hr : Room (k + 1) X.A) (hg : Gl X x) (hm : X.mg x = some (.ref C)) (hb : Binds X.K fd ps []) (tk : Takes X W)
    (ha : EA X T W (e :: es) wa) (hdb : (x == ("__debug__" : Str)) = false := by decide) (he : starEach (e :: es) X.env = (false, eval e X.env) :: starEach es X.env := by rfl) (hpl : (backTo pos (starEach es X.env)).any (·.1) = false := by rfl) :
    ED X T W (.Call (.Name x p) (e :: es) [] pos) (wMake C c wa) :=
  ⟨pe_of (pe_makeS M F hr hg hm hb (fun σ => passAt tk σ) ha.run hdb he hpl) (ti_make cc)⟩
theorem ed_makeI (M : Mk X.K C f) (F : FnOk X.prog X.w X.K X.mg X.base (L2.CX X.prog X.w) k f fd ps sp) (cc : Callee X.K T sp c) (hr : Room (k + 1) X.A) (hg : Gl X x) (hm : X.mg x = some (.ref C)) (hb : Binds X.K fd ps []) (tk : Takes X W)
    (ha : EA X T W (e :: es) wa) (hdb : (x == ("__debug__" : Str)) = false := by decide) (he : starEach (e :: es) X.env = (false, eval e X.env) :: starEach es X.env := by rfl) (hpl : (backTo pos (starEach es X.env)).any (·.1) = false := by rfl) :
    ED X T W (.Call (.Name x p) (e :: es) [] pos) (wMakeI C c wa) :=
  ⟨pe_of (pe_makeS M F hr hg hm hb (fun σ => passAt tk σ) ha.run hdb he hpl) (ti_makeI cc)⟩
end
end DL

namespace DL
open PySem L2
section
variable {X : Cx} {T : TabT} {W : WX} {e o : Expr} {es : List Expr} {wo we wi : TDe} {wa : TDa} {pos pos' apos : Pos}
/-! ### lists that change -/
/-- the list at number k -/
def atL (M : List D) (d : D) (f : Nat → List D → Prop) : Prop := match d with
  | .loc k => match M[k]? with
    | some (.lst ds) => f k ds
    | _ => False
  | _ => False
theorem atL_some {M : List D} {d : D} {f : Nat → List D → Prop} (h : atL M d f) : ∃ k ds, d = .loc k ∧ M[k]? = some (.lst ds) ∧ f k ds := by
  cases d with
  | loc k =>
    unfold atL at h
    simp only at h
    cases e : M[k]? with
    | none => rw [e] at h; exact h.elim
    | some u =>
      rw [e] at h
      cases u with
      | lst ds => exact ⟨k, ds, rfl, e, h⟩
      | _ => exact h.elim
  | _ => exact h.elim
/-- xs.append(e) -/
def wApp (wo we : TDe) : TDe := fun xc rho M Phi => wo xc rho M fun d M1 => (match lstOf M1 d with | some _ => True | none => False) ∧ we xc rho M1 fun y M2 => atL M2 d fun k ds => ds.length < sizeLine ∧ Phi .non (M2.set k (.lst (ds ++ [y])))
theorem at_lst {K : PySem.W.Frag} {O0 : Av} {S : Sto} {k : Nat} {ds : List D} (ok : SOk K O0 T S) (e : S.M[k]? = some (.lst ds)) : k < S.M.length ∧ ∃ vs, S.H (S.mu k) = some (.lst vs) ∧ ds.length ≤ sizeLine ∧ Rs K O0 S vs ds := by
  obtain ⟨o, e1, vs, e2, l, r⟩ := ok.obj k _ e
  subst e2
  exact ⟨(List.getElem?_eq_some_iff.mp e).1, vs, e1, l, r⟩
theorem rp_loc {K : PySem.W.Frag} {O0 : Av} {S : Sto} {k : Nat} {x : V} (r : R K O0 S x (.loc k)) : x = .ref (S.mu k) ∧ k < S.M.length := by
  cases r with
  | loc h => exact ⟨rfl, h⟩
theorem lst_ty {K : PySem.W.Frag} {O0 : Av} {S : Sto} {x : V} {d : D} (ok : SOk K O0 T S) (r : R K O0 S x d) (h : match lstOf S.M d with | some _ => True | none => False) : tyV K "list" x S.H := by
  cases hs : lstOf S.M d with
  | none => rw [hs] at h; exact h.elim
  | some ds =>
    obtain ⟨p, vs, rfl, sq, _⟩ := r_lst ok r hs
    exact .inl ⟨rfl, vs, sq⟩
theorem ed_app (ho : ED X T W o wo) (he : ED X T W e we) (h : ∀ (to : TE) (t : TA), PE X o to → PA X [e] t → PE X (.Call (.Attribute o "append" apos) [e] [] pos) (tBM X.K "list" rAppend to t))
    (hs : starEach (e :: []) X.env = (false, eval e X.env) :: starEach [] X.env := by rfl) : ED X T W (.Call (.Attribute o "append" apos) [e] [] pos) (wApp wo we) := by
  refine ⟨pe_of (h _ _ ho.run (pa_cons he.run pa_nil hs)) ?_⟩
  rintro σ H Q ⟨G, S, rho, xc, Phi, rfl, rel, ge, w, fin⟩
  refine ⟨G, S, rho, xc, _, rfl, rel, ge, w, fun d S1 x w1 s1 rel1 r1 => ⟨lst_ty rel1.ok r1 w1.1, ?_⟩⟩
  refine ⟨G, S1, rho, xc, _, rfl, rel1, ge, w1.2, fun y S2 v w2 s2 rel2 r2 => ?_⟩
  obtain ⟨k, ds, rfl, eM, hl, p⟩ := atL_some w2
  obtain ⟨hk, vs, hH, _, rs⟩ := at_lst rel2.ok eM
  obtain ⟨rfl, _⟩ := rp_loc (s2.rp r1)
  have s3 : Step S2 (S2.put k (.lst (vs ++ [v])) (.lst (ds ++ [y]))) := Step.put hk
  refine ⟨S2.mu k, vs, v, rfl, rfl, hH, by rw [rs.len]; exact hl, ?_⟩
  exact fin .non (S2.put k (.lst (vs ++ [v])) (.lst (ds ++ [y]))) .non p ((s1.trans s2).trans s3) (rel2.step' s3 (rel2.ok.put hk ⟨_, rfl, by rw [List.length_append, List.length_singleton]; omega, rs.append (.cons r2 .nil)⟩)) .non
/-- xs.pop(i) -/
def wPop (wo wi : TDe) : TDe := fun xc rho M Phi => wo xc rho M fun d M1 => (match lstOf M1 d with | some _ => True | none => False) ∧ wi xc rho M1 fun y M2 => atL M2 d fun k ds => isI (fun i => (-(2 ^ 63) ≤ i ∧ i < 2 ^ 63) ∧ match seqIndex? i ds.length with
  | some j => match ds[j]? with
    | some c => Phi c (M2.set k (.lst (ds.eraseIdx j)))
    | none => False
  | none => False) y
theorem ed_pop (ho : ED X T W o wo) (he : ED X T W e wi) (h : ∀ (to : TE) (t : TA), PE X o to → PA X [e] t → PE X (.Call (.Attribute o "pop" apos) [e] [] pos) (tBM X.K "list" rPopAt to t))
    (hs : starEach (e :: []) X.env = (false, eval e X.env) :: starEach [] X.env := by rfl) : ED X T W (.Call (.Attribute o "pop" apos) [e] [] pos) (wPop wo wi) := by
  refine ⟨pe_of (h _ _ ho.run (pa_cons he.run pa_nil hs)) ?_⟩
  rintro σ H Q ⟨G, S, rho, xc, Phi, rfl, rel, ge, w, fin⟩
  refine ⟨G, S, rho, xc, _, rfl, rel, ge, w, fun d S1 x w1 s1 rel1 r1 => ⟨lst_ty rel1.ok r1 w1.1, ?_⟩⟩
  refine ⟨G, S1, rho, xc, _, rfl, rel1, ge, w1.2, fun y S2 v w2 s2 rel2 r2 => ?_⟩
  obtain ⟨k, ds, rfl, eM, w2⟩ := atL_some w2
  obtain ⟨i, rfl, hi, w2⟩ := isI_some w2
  obtain ⟨hk, vs, hH, hlen, rs⟩ := at_lst rel2.ok eM
  obtain ⟨rfl, _⟩ := rp_loc (s2.rp r1)
  rw [rp_int r2]
  cases hj : seqIndex? i ds.length with
  | none => rw [hj] at w2; exact w2.elim
  | some j =>
    rw [hj] at w2
    dsimp only at w2
    cases hc : ds[j]? with
    | none => rw [hc] at w2; exact w2.elim
    | some c =>
      rw [hc] at w2
      obtain ⟨u, hu, ru⟩ := rs.get hc
      have s3 : Step S2 (S2.put k (.lst (vs.eraseIdx j)) (.lst (ds.eraseIdx j))) := Step.put hk
      refine ⟨S2.mu k, vs, i, j, u, rfl, rfl, hH, hi.1, hi.2, by rw [rs.len]; exact hj, hu, ?_⟩
      exact fin c (S2.put k (.lst (vs.eraseIdx j)) (.lst (ds.eraseIdx j))) u w2 ((s1.trans s2).trans s3) (rel2.step' s3 (rel2.ok.put hk ⟨_, rfl, Nat.le_trans (len_erase ds j) hlen, rs.eraseIdx j⟩)) (s3.rp ru)
/-- xs[i] = e -/
def wSetIx (wo wi we : TDe) : TDs := fun xc F rho M => we xc rho M fun v M1 => wo xc rho M1 fun d M2 => wi xc rho M2 fun y M3 => atL M3 d fun k ds => isI (fun i => match ixN ds.length i with
  | some j => F.nx rho (M3.set k (.lst (ds.set j v)))
  | none => False) y
theorem sd_setIx {i : Expr} (ho : ED X T W o wo) (hi : ED X T W i wi) (he : ED X T W e we)
    (h : ∀ (te to ti : TE), PE X e te → PE X o to → PE X i ti → PS X (.Assign [.Subscript o i pos'] e pos) (tAsg te (gSub to ti rSetL))) : SD X T W (.Assign [.Subscript o i pos'] e pos) (wSetIx wo wi we) := by
  refine ⟨ps_of (h _ _ _ he.run ho.run hi.run) ?_⟩
  rintro Dn σ H ⟨G, S, rho, xc, F, rfl, rel, ge, w, ends⟩
  refine ⟨G, S, rho, xc, _, rfl, rel, ge, w, fun v S1 u w1 s1 rel1 r1 => ?_⟩
  refine ⟨G, S1, rho, xc, _, rfl, rel1, ge, w1, fun d S2 x w2 s2 rel2 r2 => ?_⟩
  refine ⟨G, S2, rho, xc, _, rfl, rel2, ge, w2, fun y S3 z w3 s3 rel3 r3 => ?_⟩
  obtain ⟨k, ds, rfl, eM, w3⟩ := atL_some w3
  obtain ⟨i, ey, w4⟩ := isI_some w3
  subst ey
  obtain ⟨hk, vs, hH, hlen, rs⟩ := at_lst rel3.ok eM
  obtain ⟨rfl, _⟩ := rp_loc (s3.rp r2)
  rw [rp_int r3]
  cases hj : ixN ds.length i with
  | none => rw [hj] at w4; exact w4.elim
  | some j =>
    rw [hj] at w4
    have s4 : Step S3 (S3.put k (.lst (vs.set j u)) (.lst (ds.set j v))) := Step.put hk
    refine ⟨S3.mu k, vs, i, j, rfl, rfl, hH, by rw [rs.len]; exact hj, ?_⟩
    exact ends.nx (S3.put k (.lst (vs.set j u)) (.lst (ds.set j v))) rho σ w4 (rel3.step' s4 (rel3.ok.put hk ⟨_, rfl, by rw [List.length_set]; exact hlen, rs.set ((s2.trans s3).rp r1) j⟩))

/-! ### fields that change -/
def putD2 (f : Str) (v : D) : List (Str × D) → List (Str × D)
  | [] => [(f, v)]
  | (g, x) :: r => if g = f then (g, v) :: r else (g, x) :: putD2 f v r
theorem RpF.put {K : PySem.W.Frag} {H : Hp} {O : Av} {mu : Nat → Addr} {n : Nat} {f : Str} {v : V} {d : D} (r : Rp K H O mu n v d) : ∀ {vs : List (Str × V)} {ds : List (Str × D)}, RpF K H O mu n vs ds → RpF K H O mu n (putF f v vs) (putD2 f d ds)
  | _, _, .nil => .cons r .nil
  | _, _, .cons (f := g) (v := w) (d := e) (vs := vs) (ds := ds) h q => by
    unfold putF putD2
    by_cases c : g = f
    · rw [if_pos c, if_pos c]; exact .cons r q
    · rw [if_neg c, if_neg c]; exact .cons h (RpF.put r q)
def wFldSet (cs : List Addr) (f : Str) (wo we : TDe) : TDs := fun xc F rho M => we xc rho M fun v M1 => wo xc rho M1 fun d M2 => match d with
  | .loc k => match M2[k]? with
    | some (.ins C fs) => C ∈ cs ∧ fs.length < 1000 ∧ F.nx rho (M2.set k (.ins C (putD2 f v fs)))
    | _ => False
  | _ => False
theorem sd_fld {cs : List Addr} {f : Str} (hc : ∀ C, C ∈ cs → Cls X.K C ∧ NoAttr X.K C f) (ho : ED X T W o wo) (he : ED X T W e we) (hs : swapsWith e (some (.Attribute o f pos')) pos.line X.env = pure false := by rfl) : SD X T W (.Assign [.Attribute o f pos'] e pos) (wFldSet cs f wo we) := by
  refine ⟨ps_of (ps_fld ho.run he.run hs) ?_⟩
  rintro Dn σ H ⟨G, S, rho, xc, F, rfl, rel, ge, w, ends⟩
  refine ⟨G, S, rho, xc, _, rfl, rel, ge, w, fun v S1 u w1 s1 rel1 r1 => ?_⟩
  refine ⟨G, S1, rho, xc, _, rfl, rel1, ge, w1, fun d S2 x w2 s2 rel2 r2 => ?_⟩
  cases d with
  | loc k =>
    dsimp only at w2
    cases hM : S2.M[k]? with
    | none => rw [hM] at w2; exact w2.elim
    | some c =>
      rw [hM] at w2
      cases c with
      | ins C fs =>
        obtain ⟨hC, hl, w2⟩ := w2
        obtain ⟨h1, h2⟩ := hc C hC
        have hk := (List.getElem?_eq_some_iff.mp hM).1
        obtain ⟨o', e1, dx, fvs, e2, rf⟩ := rel2.ok.obj k _ hM
        subst e2
        obtain ⟨rfl, _⟩ := rp_loc r2
        have s3 : Step S2 (S2.put k (.ins C dx (putF f u fvs)) (.ins C (putD2 f v fs))) := Step.put hk
        refine ⟨S2.mu k, C, dx, fvs, rfl, e1, h1, h2, by rw [rf.len]; exact hl, ?_⟩
        exact ends.nx (S2.put k (.ins C dx (putF f u fvs)) (.ins C (putD2 f v fs))) rho σ w2 (rel2.step' s3 (rel2.ok.put hk ⟨dx, _, rfl, rf.put (s2.rp r1)⟩))
      | _ => exact w2.elim
  | _ => exact w2.elim

/-! ### raise, while, never -/
def wRaise (C : Addr) : TDs := fun xc _ rho M => xc (C, none) rho M
theorem sd_raise0 {x : Str} {p p2 : Pos} {C : Addr} (hc : X.calm = true) (tk : Takes X W) (hm : PMk X (.Call (.Name x p) [] [] p2) (fun _ H Q => Q (.ref C) none H)) : SD X T W (.Raise (some (.Call (.Name x p) [] [] p2)) none pos) (wRaise C) := by
  refine ⟨ps_of (ps_raise hc tk hm) ?_⟩
  rintro Dn σ H ⟨G, S, rho, xc, F, rfl, rel, ge, w, ends⟩
  exact ge _ S rho σ _ _ w rel ⟨rfl, rfl⟩
def wNever : TDs := fun _ _ _ _ => False
theorem sd_never {st : Stmt} : SD X T W st wNever := by
  refine ⟨ps_of ps_never ?_⟩
  rintro Dn σ H ⟨G, S, rho, xc, F, e, rel, ge, w, ends⟩
  exact w.elim
theorem sds_never {st : List Stmt} : SDs X T W st wNever := by
  refine ⟨pss_of pss_never ?_⟩
  rintro Dn σ H ⟨G, S, rho, xc, F, e, rel, ge, w, ends⟩
  exact w.elim
def whileGo (t : TDt) (wb : TDs) (xc : XC) (F : Fin) : Nat → Rho → List D → Prop
  | 0, _, _ => False
  | n + 1, rho, M => t xc rho M fun b M1 => if b = true then wb xc { nx := whileGo t wb xc F n, rt := F.rt, ct := whileGo t wb xc F n, bk := F.nx } rho M1 else F.nx rho M1
def wWhile (t : TDt) (wb : TDs) : TDs := fun xc F rho M => ∃ n, whileGo t wb xc F n rho M
theorem sd_while {c : Expr} {body : List Stmt} {t : TDt} {wb : TDs} (hp : PassesOwn (model X.prog X.w) X.A X.env X.xe) (hc : ET X T W c t) (hb : SDs X T W body wb) : SD X T W (.While c body [] pos) (wWhile t wb) := by
  refine ⟨ps_of (ps_while hp hc.run hb.run) ?_⟩
  rintro Dn σ H ⟨G, S, rho, xc, F, rfl, rel, ge, ⟨n, w⟩, ends⟩
  have s01 := rel.step
  refine ⟨fun m σ H => ∃ S1 rho, S1.H = H ∧ Rel X.K T ⟨G.O0, S⟩ S1 rho σ ∧ whileGo t wb xc F m rho S1.M, ⟨n, S, rho, rfl, ⟨rel.ok, Step.refl S, rel.slots⟩, w⟩, ?_⟩
  rintro m σ' H' ⟨S1, rho1, rfl, rel1, w1⟩
  cases m with
  | zero => exact w1.elim
  | succ m =>
    refine ⟨⟨G.O0, S⟩, S1, rho1, xc, _, rfl, rel1, ge.later s01, w1, fun b S2 w2 s2 rel2 => ?_⟩
    cases b with
    | false => exact ends.nx S2 rho1 σ' w2 (rel2.later s01)
    | true =>
      refine ⟨fun σ3 H3 => ∃ S3 rho3, S3.H = H3 ∧ Rel X.K T ⟨G.O0, S⟩ S3 rho3 σ3 ∧ whileGo t wb xc F m rho3 S3.M, fun σ3 H3 ⟨S3, rho3, e3, rel3, w3⟩ => ⟨m, Nat.lt_succ_self m, S3, rho3, e3, rel3, w3⟩, ?_⟩
      refine ⟨⟨G.O0, S⟩, S2, rho1, xc, _, rfl, rel2, ge.later s01, w2, ⟨fun S6 rho6 σ6 w6 rel6 => ⟨S6, rho6, rfl, rel6, w6⟩, fun S6 d6 v6 w6 ok6 s6 r6 => ends.rt S6 d6 v6 w6 ok6 (s01.trans s6) r6, fun S6 rho6 σ6 w6 rel6 => ends.nx S6 rho6 σ6 w6 (rel6.later s01), fun S6 rho6 σ6 w6 rel6 => ⟨S6, rho6, rfl, rel6, w6⟩⟩⟩

/-! ### name = [..] -/
theorem sd_setN {i : Nat} {x : Str} {p2 : Pos} {tl : TE} (h : PS X (.Assign [.Name x p2] e pos) (tAsg tl (gName i))) (hi : ∀ σ H Q, tN X.K T W we σ H Q → tl σ H Q) : SD X T W (.Assign [.Name x p2] e pos) (wSet i we) := by
  refine ⟨ps_of h ?_⟩
  rintro Dn σ H ⟨G, S, rho, xc, F, rfl, rel, ge, w, ends⟩
  refine hi _ _ _ ⟨G, S, rho, xc, _, rfl, rel, ge, w, fun d S1 a o w1 s1 rel1 ha c => ?_⟩
  have s2 : Step S1 (S1.lay a o) := Step.lay ha
  exact ends.nx (S1.lay a o) _ _ w1 ((rel1.step' s2 (rel1.ok.lay ha)).set (c.rp (s2.carry G.O0) upd_same (notO_of_free (S := S1) rel1.ok ha)))
theorem sd_newN {i : Nat} {x : Str} {p2 : Pos} {tl : TE} (h : PS X (.Assign [.Name x p2] e pos) (tAsg tl (gName i))) (hi : ∀ σ H Q, tN X.K T W we σ H Q → tl σ H Q) : SD X T W (.Assign [.Name x p2] e pos) (wNew i we) := by
  refine ⟨ps_of h ?_⟩
  rintro Dn σ H ⟨G, S, rho, xc, F, rfl, rel, ge, w, ends⟩
  refine hi _ _ _ ⟨G, S, rho, xc, _, rfl, rel, ge, w, fun d S1 a o w1 s1 rel1 ha c => ?_⟩
  have s2 : Step S1 (S1.add a o d) := Step.add ha
  have rel2 : Rel X.K T G (S1.add a o d) rho σ := rel1.step' s2 (rel1.ok.add ha c)
  have em : (S1.add a o d).mu S1.M.length = a := if_pos rfl
  have lt : S1.M.length < (S1.add a o d).M.length := by
    show S1.M.length < (S1.M ++ [d]).length
    rw [List.length_append, List.length_singleton]
    exact Nat.lt_succ_self _
  have rr : R X.K G.O0 (S1.add a o d) (.ref a) (.loc S1.M.length) := by
    have q : R X.K G.O0 (S1.add a o d) (.ref ((S1.add a o d).mu S1.M.length)) (.loc S1.M.length) := .loc lt
    rw [em] at q
    exact q
  exact ends.nx (S1.add a o d) _ _ w1 (rel2.set rr)
end

/-! ### is None, ==, in, isinstance -/
section
variable {K : PySem.W.Frag} {X : Cx}
def isNon : D → Bool
  | .non => true
  | _ => false
theorem isNon_ok {H : Hp} {O : Av} {mu : Nat → Addr} {n : Nat} {x : V} {a : D} (r : Rp K H O mu n x a) : decide (x = .non) = isNon a := by
  cases r <;> rfl
def oIs : Op2 := fun _ a b Psi => match b with
  | .non => Psi (.bl (isNon a))
  | _ => False
def oIsNot : Op2 := fun _ a b Psi => match b with
  | .non => Psi (.bl (!isNon a))
  | _ => False
theorem od_is : OpD K (fun x y H Q => y = .non ∧ Q (.bl (decide (x = .non))) H) oIs := by
  intro O0 T S x y a b Psi Q ok ra rb w fin
  cases b <;> first | exact w.elim | skip
  exact ⟨rp_non rb, fin _ S _ w rfl (Step.refl S) ok (by rw [isNon_ok ra]; exact .bl _)⟩
theorem od_isNot : OpD K (fun x y H Q => y = .non ∧ Q (.bl (!decide (x = .non))) H) oIsNot := by
  intro O0 T S x y a b Psi Q ok ra rb w fin
  cases b <;> first | exact w.elim | skip
  exact ⟨rp_non rb, fin _ S _ w rfl (Step.refl S) ok (by rw [isNon_ok ra]; exact .bl _)⟩
mutual
def D.py : D → Option PyData
  | .non => some .none
  | .bl b => some (.bool b)
  | .int i => some (.int i)
  | .str x => some (.str x)
  | .tup xs => match pyL xs with
    | some ds => some (.tuple ds)
    | none => none
  | .tpx xs => match pyL xs with
    | some ds => some (.tuple ds)
    | none => none
  | .lst xs => match pyL xs with
    | some ds => some (.list ds)
    | none => none
  | _ => none
def pyL : List D → Option (List PyData)
  | [] => some []
  | d :: r => match D.py d, pyL r with
    | some x, some xs => some (x :: xs)
    | _, _ => none
end
mutual
theorem py_dp {H : Hp} {O : Av} {mu : Nat → Addr} {n : Nat} : ∀ {x : V} {d : D} {p : PyData}, Rp K H O mu n x d → d.py = some p → Dp K H x p
  | _, _, p, .non, h => by rw [D.py] at h; cases h; exact .non
  | _, _, p, .bl b, h => by rw [D.py] at h; cases h; exact .bl b
  | _, _, p, .int i, h => by rw [D.py] at h; cases h; exact .int i
  | _, _, p, .str x, h => by rw [D.py] at h; cases h; exact .str x
  | _, _, p, .tup (ds := ds) h1 _ r, h => by
    rw [D.py] at h
    cases e : pyL ds with
    | none => rw [e] at h; cases h
    | some es =>
      rw [e] at h
      cases h
      exact .tup (SqT.ofO h1) (pyL_dp r e)
  | _, _, p, .tpx (ds := ds) _ h1 _ _ r, h => by
    rw [D.py] at h
    cases e : pyL ds with
    | none => rw [e] at h; cases h
    | some es =>
      rw [e] at h
      cases h
      exact .tup (.inl (.inr ⟨_, h1⟩)) (pyL_dp r e)
  | _, _, p, .lst (ds := ds) h1 _ r, h => by
    rw [D.py] at h
    cases e : pyL ds with
    | none => rw [e] at h; cases h
    | some es =>
      rw [e] at h
      cases h
      exact .lst (SqL.ofO h1) (pyL_dp r e)
  | _, _, p, .ins _ _ _, h => by rw [D.py] at h; cases h; all_goals simp
  | _, _, p, .dK _ _ _, h => by rw [D.py] at h; cases h; all_goals simp
  | _, _, p, .dT _ _ _, h => by rw [D.py] at h; cases h; all_goals simp
  | _, _, p, .loc _, h => by rw [D.py] at h; cases h; all_goals simp
  | _, _, p, .adr _, h => by rw [D.py] at h; cases h; all_goals simp
  | _, _, p, .ty _, h => by rw [D.py] at h; cases h; all_goals simp
theorem pyL_dp {H : Hp} {O : Av} {mu : Nat → Addr} {n : Nat} : ∀ {x : List V} {d : List D} {p : List PyData}, Rps K H O mu n x d → pyL d = some p → DpAll K H x p
  | _, _, p, .nil, h => by rw [pyL] at h; cases h; exact .nil
  | _, _, p, .cons (d := d) (ds := ds) h1 r, h => by
    rw [pyL] at h
    cases e1 : d.py with
    | none => rw [e1] at h; cases h
    | some a =>
      cases e2 : pyL ds with
      | none => rw [e1, e2] at h; cases h
      | some as =>
        rw [e1, e2] at h
        cases h
        exact .cons (py_dp h1 e1) (pyL_dp r e2)
end
/-- .. a list of the store too -/
def pyOf (M : List D) (d : D) : Option PyData := match d with
  | .loc k => match M[k]? with
    | some (.lst ds) => D.py (.lst ds)
    | _ => none
  | d => d.py
theorem pyOf_dp {O0 : Av} {T : TabT} {S : Sto} {x : V} {d : D} {p : PyData} (ok : SOk K O0 T S) (r : R K O0 S x d) (h : pyOf S.M d = some p) : Dp K S.H x p := by
  cases d with
  | loc k =>
    unfold pyOf at h
    simp only at h
    cases e : S.M[k]? with
    | none => rw [e] at h; cases h
    | some c =>
      rw [e] at h
      cases c with
      | lst ds =>
        obtain ⟨o, e1, vs, e2, l, rs⟩ := ok.obj k _ e
        subst e2
        obtain ⟨rfl, _⟩ := rp_loc r
        have h' : D.py (.lst ds) = some p := h
        rw [D.py] at h'
        cases e3 : pyL ds with
        | none => rw [e3] at h'; cases h'
        | some es =>
          rw [e3] at h'
          cases h'
          exact .lst (.inl (.inl e1)) (pyL_dp rs e3)
      | _ => cases h
  | _ => exact py_dp r h
def oEq : Op2 := fun M a b Psi => match pyOf M a, pyOf M b with
  | some p, some q => SeqAt.shaped p = true ∧ SeqAt.shaped q = true ∧ Psi (.bl (PyData.eqv p q))
  | _, _ => False
def oNe : Op2 := fun M a b Psi => match pyOf M a, pyOf M b with
  | some p, some q => SeqAt.shaped p = true ∧ SeqAt.shaped q = true ∧ Psi (.bl (!PyData.eqv p q))
  | _, _ => False
theorem od_eq : OpD K (rEqD K) oEq := by
  intro O0 T S x y a b Psi Q ok ra rb w fin
  unfold oEq at w
  cases ha : pyOf S.M a with
  | none => rw [ha] at w; exact w.elim
  | some p =>
    cases hb : pyOf S.M b with
    | none => rw [ha, hb] at w; exact w.elim
    | some q =>
      rw [ha, hb] at w
      exact ⟨p, q, pyOf_dp ok ra ha, pyOf_dp ok rb hb, w.1, w.2.1, fin _ S _ w.2.2 rfl (Step.refl S) ok (.bl _)⟩
theorem od_ne : OpD K (rNeD K) oNe := by
  intro O0 T S x y a b Psi Q ok ra rb w fin
  unfold oNe at w
  cases ha : pyOf S.M a with
  | none => rw [ha] at w; exact w.elim
  | some p =>
    cases hb : pyOf S.M b with
    | none => rw [ha, hb] at w; exact w.elim
    | some q =>
      rw [ha, hb] at w
      exact ⟨p, q, pyOf_dp ok ra ha, pyOf_dp ok rb hb, w.1, w.2.1, fin _ S _ w.2.2 rfl (Step.refl S) ok (.bl _)⟩
/-- in, of flat things -/
def vOf : D → Option V
  | .non => some .non
  | .bl b => some (.bl b)
  | .int i => some (.int i)
  | .str x => some (.str x)
  | _ => none
theorem vOf_ok {H : Hp} {O : Av} {mu : Nat → Addr} {n : Nat} {x v : V} {d : D} (r : Rp K H O mu n x d) (h : vOf d = some v) : x = v ∧ flatV v = true := by
  cases r <;> first | (cases h; exact ⟨rfl, rfl⟩) | (cases h; done)
def vsOf : List D → Option (List V)
  | [] => some []
  | d :: r => match vOf d, vsOf r with
    | some x, some xs => some (x :: xs)
    | _, _ => none
theorem vsOf_ok {H : Hp} {O : Av} {mu : Nat → Addr} {n : Nat} : ∀ {xs : List V} {ds : List D} {vs : List V}, Rps K H O mu n xs ds → vsOf ds = some vs → xs = vs ∧ vs.all flatV = true
  | _, _, vs, .nil, h => by cases h; exact ⟨rfl, rfl⟩
  | _, _, vs, .cons (d := d) (ds := ds) h1 r, h => by
    unfold vsOf at h
    cases e1 : vOf d with
    | none => rw [e1] at h; cases h
    | some a =>
      cases e2 : vsOf ds with
      | none => rw [e1, e2] at h; cases h
      | some as =>
        rw [e1, e2] at h
        cases h
        obtain ⟨f1, f2⟩ := vOf_ok h1 e1
        obtain ⟨g1, g2⟩ := vsOf_ok r e2
        rw [f1, g1]
        exact ⟨rfl, by rw [List.all_cons, f2, g2]; rfl⟩
def oIn (neg : Bool) : Op2 := fun M a b Psi => match vOf a, seqOf M b with
  | some v, some ds => match vsOf ds with
    | some vs => Psi (.bl (if neg then !inV v vs else inV v vs))
    | none => False
  | _, _ => False
theorem od_in {neg : Bool} : OpD K (rIn K neg) (oIn neg) := by
  intro O0 T S x y a b Psi Q ok ra rb w fin
  unfold oIn at w
  cases ha : vOf a with
  | none => rw [ha] at w; exact w.elim
  | some v =>
    cases hb : seqOf S.M b with
    | none => rw [ha, hb] at w; exact w.elim
    | some ds =>
      rw [ha, hb] at w
      dsimp only at w
      cases hv : vsOf ds with
      | none => rw [hv] at w; exact w.elim
      | some vs =>
        rw [hv] at w
        obtain ⟨p, us, rfl, sq, rs, _⟩ := r_seq ok rb hb
        obtain ⟨e1, f1⟩ := vOf_ok ra ha
        obtain ⟨e2, f2⟩ := vsOf_ok rs hv
        subst e1 e2
        exact ⟨p, us, rfl, sq, f1, f2, fin _ S _ w rfl (Step.refl S) ok (.bl _)⟩

/-! ### isinstance -/
def tyD (M : List D) : D → Option String
  | .non => some "NoneType"
  | .bl _ => some "bool"
  | .int _ => some "int"
  | .str _ => some "str"
  | .tup _ => some "tuple"
  | .tpx _ => some "tuple"
  | .lst _ => some "list"
  | .dct _ => some "dict"
  | .loc k => match M[k]? with
    | some (.lst _) => some "list"
    | some (.dct _) => some "dict"
    | _ => none
  | _ => none
theorem tyD_ok {O0 : Av} {T : TabT} {S : Sto} {x : V} {d : D} {t : String} (ok : SOk K O0 T S) (r : R K O0 S x d) (h : tyD S.M d = some t) : TyX K S.H x (.type t) := by
  cases r with
  | non => cases h; exact .base .non
  | bl b => cases h; exact .base (.bl b)
  | int i => cases h; exact .base (.int i)
  | str i => cases h; exact .base (.str i)
  | tup q _ _ =>
    cases h
    rcases q with q | ⟨o, its, n, e, c, _⟩
    · exact .base (.tup q.2)
    · exact .kTuple e c
  | tpx _ q _ _ _ => cases h; exact .fTuple q
  | lst q _ _ =>
    cases h
    rcases q with ⟨_, q | ⟨o, q⟩⟩ | ⟨o, its, n, e, c, _⟩
    · exact .base (.lst q)
    · exact .base (.frz q)
    · exact .kList e c
  | ins _ _ _ => cases h
  | dK _ q _ => cases h; exact .base (.dK q)
  | dT _ q _ => cases h; exact .base (.dT q)
  | adr _ => cases h
  | ty _ => cases h
  | @loc k hk =>
    unfold tyD at h
    simp only at h
    cases e : S.M[k]? with
    | none => rw [e] at h; cases h
    | some c =>
      rw [e] at h
      obtain ⟨o, e1, cc⟩ := ok.obj k c e
      cases c with
      | lst ds =>
        cases h
        obtain ⟨vs, e2, _⟩ := cc
        subst e2
        exact .base (.lst e1)
      | dct ds =>
        cases h
        rcases cc with ⟨vs, e2, _⟩ | ⟨vs, es, e2, _⟩
        · subst e2; exact .base (.dK e1)
        · subst e2; exact .base (.dT e1)
      | _ => cases h
def optB (o : Option Bool) (Psi : D → Prop) : Prop := match o with
  | some b => Psi (.bl b)
  | none => False
def oIsi : OpA := arg2 fun M a c Psi => match tyD M a, c with
  | some t, .ty n => optB (kitB t n) Psi
  | _, _ => False
theorem od_isi : OpDA K (rIsi K) oIsi := by
  intro O0 T S xs as Psi Q ok rs w fin
  obtain ⟨a, c, ea, w1⟩ := arg2_some w
  subst ea
  obtain ⟨x, y, rfl, ra, rb⟩ := rs2 rs
  cases ht : tyD S.M a with
  | none => rw [ht] at w1; exact w1.elim
  | some t =>
    rw [ht] at w1
    cases c with
    | ty n =>
      dsimp only at w1
      cases hb : kitB t n with
      | none => rw [hb] at w1; exact w1.elim
      | some b =>
        rw [hb] at w1
        cases rb
        exact ⟨_, _, _, _, b, rfl, .ty n, tyD_ok ok ra ht, kit_ty hb, fin _ S _ w1 rfl (Step.refl S) ok (.bl _)⟩
    | _ => exact w1.elim
end
end DL

/-! zip and enumerate over lists and tuples, mixed -/
namespace DL
open PySem L2
def SqK (K : PySem.W.Frag) (H : Hp) (t : Bool) (a : Addr) (xs : List V) : Prop := match t with
  | true => SqT K H a xs
  | false => SqL K H a xs
def HSq (h : Heap) (t : Bool) (a : Addr) (its : Array Value) : Prop := match t with
  | true => h.IsTuple a its
  | false => h.IsList a its
def HIt (h : Heap) (t : Bool) (it a : Addr) (i : Nat) : Prop := match t with
  | true => h.IsTupleIter it a i
  | false => h.IsListIter it a i
def itObj (t : Bool) (a : Addr) : Obj := match t with
  | true => { cls := .type "tuple_iterator", data := .fields #[.ref a, .int 0 0] }
  | false => { cls := .type "list_iterator", data := .fields #[.ref a, .int 0 0] }
section
variable {X : Cx} {pins : List (Addr × Obj)} {σ : St} {H : Hp} {s : Shared} {h h' : Heap} {t : Bool} {a it : Addr} {xs ys : List V} {i : Nat}
theorem sqk_raw (I : Inv X pins σ H s) (q : SqK X.K H t a xs) : ∃ its, Vals xs its ∧ HSq s.heap t a its.toArray ∧ a < s.heap.objs.size := by
  cases t with
  | true =>
    obtain ⟨its, rv, p, _⟩ := I.tuple q
    have p' : s.heap.IsTuple a its.toArray := p
    obtain ⟨o, ho, _⟩ := id p'
    exact ⟨its, rv, p', Heap.lt_size ho⟩
  | false =>
    obtain ⟨its, rv, p, _⟩ := I.list q
    exact ⟨its, rv, p.isList, p.lt⟩
theorem sqk_inj (I : Inv X pins σ H s) (q : SqK X.K H t a xs) (r : SqK X.K H t a ys) : xs = ys := by
  cases t with
  | true => exact I.tuple_inj q r
  | false => exact I.list_inj q r
theorem HSq.at' (x : HSq h t a its) (k : ∀ o, h.get? a = some o → h'.get? a = some o) : HSq h' t a its := by
  cases t with
  | true => exact Heap.IsTuple.at x k
  | false => exact Heap.IsList.at x k
theorem HSq.there (x : HSq h t a its) : ∃ o, h.get? a = some o := by
  cases t with
  | true => obtain ⟨o, e, _⟩ := x; exact ⟨o, e⟩
  | false => obtain ⟨o, e, _⟩ := x; exact ⟨o, e⟩
theorem HIt.at' (x : HIt h t it a i) (k : ∀ o, h.get? it = some o → h'.get? it = some o) : HIt h' t it a i := by
  cases t with
  | true => exact Heap.IsTupleIter.at x k
  | false => exact Heap.IsListIter.at x k
theorem HIt.obj (x : HIt h t it a i) : ∃ o, h.get? it = some o ∧ ∀ v, o.data ≠ .cell v := by
  cases t with
  | true => obtain ⟨o, e, _, d⟩ := x; exact ⟨o, e, fun v q => by rw [d] at q; cases q⟩
  | false => obtain ⟨o, e, _, d⟩ := x; exact ⟨o, e, fun v q => by rw [d] at q; cases q⟩
theorem HIt.new (t : Bool) {h : Heap} {it a : Addr} (e : h.get? it = some (itObj t a)) : HIt h t it a 0 := by
  cases t with
  | true => exact ⟨_, e, rfl, rfl⟩
  | false => exact ⟨_, e, rfl, rfl⟩
theorem beginsK (t : Bool) (a : Addr) (its : Array Value) : Begins (.ref a) (itObj t a) fun h => HSq h t a its := by
  cases t with
  | true => exact begins_tuple a its
  | false => exact begins_list a its
theorem drawsK {P : Program} {w : World} {A : Around} (t : Bool) (hh : A.handled = none) (it a : Addr) (ne : a ≠ it) (its : Array Value) : Draws P w A it [it, a] its.size (fun i v => its[i]? = some v) (fun i h => HIt h t it a i ∧ HSq h t a its) := by
  cases t with
  | true => exact Draws.tuple hh it a ne its
  | false => exact Draws.list hh it a ne its
end

/-- two sequences side by side, as they stand at each turn -/
def ItZ (K : PySem.W.Frag) (t u : Bool) (a b : Addr) : It :=
  ⟨fun i H => ∃ (xs ys : List V) (x y : V), SqK K H t a xs ∧ SqK K H u b ys ∧ xs[i]? = some x ∧ ys[i]? = some y,
   fun i H v H' => ∃ p x y, v = .ref p ∧ H p = none ∧ H' = upd H p (.tup [x, y]) ∧ (∀ xs, SqK K H t a xs → xs[i]? = some x) ∧ ∀ ys, SqK K H u b ys → ys[i]? = some y,
   fun i H => ∃ xs ys : List V, SqK K H t a xs ∧ SqK K H u b ys ∧ i ≤ xs.length ∧ i ≤ ys.length ∧ (i = xs.length ∨ i = ys.length)⟩
section
variable {P : Program} {w : World} {K : PySem.W.Frag} {elts : List Expr} {kk : Nat} {tpos : Pos} {t u : Bool} {a b z ti to i j : Addr}
abbrev ZCells (z ti to i j a b : Addr) : Prop := ZipSep2 z ti to i j [i, a] [j, b]
theorem turnZ (S : ZCells z ti to i j a b) (na : a ≠ i) (nb : b ≠ j) : Turn P w K (.Tuple elts kk tpos) (ItZ K t u a b) [z, ti, to, i, j] z
    (fun n h => IsZip h z ti to .none ∧ IsTupOf2 h ti (.ref i) (.ref j) ∧ (∃ x y, IsTupOf2 h to x y) ∧ HIt h t i a n ∧ HIt h u j b n) where
  mem := by simp
  obj := by
    rintro n h ⟨c1, c2, ⟨x, y, c3⟩, c4, c5⟩ c hc
    have hc' : c = z ∨ c = ti ∨ c = to ∨ c = i ∨ c = j := by simpa using hc
    rcases hc' with rfl | rfl | rfl | rfl | rfl
    · exact ⟨_, c1, fun v e => nomatch e⟩
    · exact ⟨_, c2, fun v e => nomatch e⟩
    · exact ⟨_, c3, fun v e => nomatch e⟩
    · exact c4.obj
    · exact c5.obj
  keep := by
    rintro n h h' ⟨c1, c2, ⟨x, y, c3⟩, c4, c5⟩ kp
    exact ⟨kp z (by simp) _ c1, kp ti (by simp) _ c2, ⟨x, y, kp to (by simp) _ c3⟩, c4.at' fun o e => kp i (by simp) o e, c5.at' fun o e => kp j (by simp) o e⟩
  item := by
    intro X hP hw hK hc n pins s σ H E I hf st hg
    subst hP hw hK
    obtain ⟨c1, c2, ⟨x0, y0, c3⟩, c4, c5⟩ := st
    obtain ⟨xs, ys, x, y, qx, qy, hx, hy⟩ := hg
    obtain ⟨as, ra, pa, _⟩ := sqk_raw I qx
    obtain ⟨bs, rb, pb, _⟩ := sqk_raw I qy
    obtain ⟨v1, hv1, r1⟩ := ra.get hx
    obtain ⟨v2, hv2, r2⟩ := rb.get hy
    have hh : X.A.in1.handled = none := I.ok.hd hc
    have zl : z < s.heap.objs.size := Heap.lt_size c1
    have n1 : n < as.toArray.size := by rw [List.size_toArray]; exact (List.getElem?_eq_some_iff.mp hv1).1
    have n2 : n < bs.toArray.size := by rw [List.size_toArray]; exact (List.getElem?_eq_some_iff.mp hv2).1
    refine wpAny_pyNext_zipD2_item S (drawsK t hh i a na as.toArray) (drawsK u hh j b nb bs.toArray) c1 c2 c3 ⟨c4, pa⟩ ⟨c5, pb⟩ n1 n2 fun u1 u2 g tk e1 e2 d1 d2 d3 d4 d5 d6 kp => ?_
    have e1' : as[n]? = some u1 := by simpa using e1
    have e2' : bs[n]? = some u2 := by simpa using e2
    rw [hv1] at e1'; rw [hv2] at e2'
    cases e1'; cases e2'
    refine ⟨_, rfl, wpAny_letOwnedTupleGo_zip (s := { s with heap := g, toks := tk }) d1 fun g2 d1' sb => ?_⟩
    have dT : g2.get? s.heap.objs.size = some { cls := .type "tuple", data := .seq #[v1, v2] } := (sb.2 _ (Nat.ne_of_gt zl)).trans d5
    have J : Inv X pins σ (upd H s.heap.objs.size (.tup [x, y])) { s with heap := g2, toks := tk } := by
      refine I.turnedNew (ch := [z, ti, to, i, j]) (fun c o hb q => ?_) hf (Nat.le_refl _) ⟨by show 2 ≤ sizeLine; decide, [v1, v2], .cons r1 (.cons r2 .nil), ⟨_, dT, rfl, _, rfl⟩⟩
      have nz : c ≠ z := fun e => hb (by simp [e])
      exact (sb.2 c nz).trans (kp c o nz (fun e => hb (by simp [e])) (fun e => hb (by simp [e])) (fun e => hb (by simp [e])) q)
    refine ⟨.ref s.heap.objs.size, _, J, rfl, ⟨_, x, y, rfl, I.hok.fresh (Nat.le_refl _), rfl, fun l hl => by rw [sqk_inj I hl qx]; exact hx, fun l hl => by rw [sqk_inj I hl qy]; exact hy⟩, ⟨d1', ?_, ⟨v1, v2, ?_⟩, ?_, ?_⟩, fun c hcm => ?_⟩
    · exact (sb.2 _ S.TIz).trans (kp _ _ S.TIz S.TITO S.TIi1 S.TIi2 c2)
    · exact (sb.2 _ S.TOz).trans d2
    · exact d3.1.at' fun o e => (sb.2 _ (Ne.symm S.zi1)).trans e
    · exact d4.1.at' fun o e => (sb.2 _ (Ne.symm S.zi2)).trans e
    · have lt : c < s.heap.objs.size := by
        have hc' : c = z ∨ c = ti ∨ c = to ∨ c = i ∨ c = j := by simpa using hcm
        rcases hc' with rfl | rfl | rfl | rfl | rfl
        · exact zl
        · exact Heap.lt_size c2
        · exact Heap.lt_size c3
        · obtain ⟨o, e, _⟩ := c4.obj; exact Heap.lt_size e
        · obtain ⟨o, e, _⟩ := c5.obj; exact Heap.lt_size e
      rw [upd_ne (Nat.ne_of_lt lt)]
      exact (hf c hcm).1
  done := by
    intro X hP hw hK hc n pins s σ H E I hf st hg
    subst hP hw hK
    obtain ⟨c1, c2, ⟨x0, y0, c3⟩, c4, c5⟩ := st
    obtain ⟨xs, ys, qx, qy, l1, l2, hend⟩ := hg
    obtain ⟨as, ra, pa, _⟩ := sqk_raw I qx
    obtain ⟨bs, rb, pb, _⟩ := sqk_raw I qy
    have e1 : as.toArray.size = xs.length := by rw [List.size_toArray, ra.length]
    have e2 : bs.toArray.size = ys.length := by rw [List.size_toArray, rb.length]
    have hh : X.A.in1.handled = none := I.ok.hd hc
    refine wpAny_pyNext_zipD2_end S (drawsK t hh i a na as.toArray) (drawsK u hh j b nb bs.toArray) c1 c2 c3 ⟨c4, pa⟩ ⟨c5, pb⟩ (by rw [e1]; exact l1) (by rw [e2]; exact l2) (by rw [e1, e2]; exact hend) fun g tk kp => ⟨rfl, ?_⟩
    exact I.turnedL (ch := [z, ti, to, i, j]) (fun c o hb q => kp c o (fun e => hb (by simp [e])) (fun e => hb (by simp [e])) (fun e => hb (by simp [e])) (fun e => hb (by simp [e])) q) hf
  self := fun A n s Q E st q => wpAny_pyIter_zip st.1 q
end
def iZ (K : PySem.W.Frag) (ta : TA) : TI := fun σ H RR => ta σ H fun vs H1 => ∃ t u a b xs ys, vs = [.ref a, .ref b] ∧ SqK K H1 t a xs ∧ SqK K H1 u b ys ∧ RR (ItZ K t u a b) H1
open PySem.Spec PyProof.Rows in
theorem pi_Z {X : Cx} {e e2 : Expr} {ta : TA} {p pos tpos : Pos} {elts : List Expr} {kk : Nat} (hg : Gl X "zip") (hm : X.mg "zip" = none) (ha : PA X [e, e2] ta)
    (hs : starEach [e, e2] X.env = (false, eval e X.env) :: starEach [e2] X.env := by rfl) (hpl : (backTo pos (starEach [e2] X.env)).any (·.1) = false := by rfl) :
    PI X (.Tuple elts kk tpos) (.Call (.Name "zip" p) [e, e2] [] pos) (iZ X.K ta) := by
  refine ⟨fun pins s σ H RR I h => Call_ (ld_blt I hg hm PyProof.Rows.boot_zip (PyProof.Rows.callWith_type1 (thn (ha.run pos pins s σ H _ I h) fun us s1 ⟨vs, H1, I1, r1, q1⟩ => ?_) hs hpl))⟩
  obtain ⟨t, u, a, b, xs, ys, ev, qa, qb, q⟩ := q1
  subst ev
  cases r1 with
  | cons r rr =>
    cases rr with
    | cons r' rr =>
      cases rr; cases r; cases r'
      obtain ⟨as, _, pa, la⟩ := sqk_raw I1 qa
      obtain ⟨bs, _, pb, lb⟩ := sqk_raw I1 qb
      refine zip_begins2 (beginsK t a as.toArray) (beginsK u b bs.toArray) pa pb fun g c1 c2 c3 c4 c5 _ kp => wpAny_pyIter_zip c1 ?_
      have S : ZCells (s1.heap.objs.size + 4) (s1.heap.objs.size + 2) (s1.heap.objs.size + 3) s1.heap.objs.size (s1.heap.objs.size + 1) a b :=
        zip_sep2 (fun c hc => by rw [List.mem_singleton.mp hc]; exact la) (fun c hc => by rw [List.mem_singleton.mp hc]; exact lb)
      refine ⟨s1.heap.objs.size + 4, _, _, ItZ X.K t u a b, H1, rfl, I1.kept (t' := s1.toks) kp, turnZ S (Nat.ne_of_lt la) (Nat.ne_of_lt (Nat.lt_succ_of_lt lb)), ⟨c1, c2, ⟨_, _, c3⟩, HIt.new t c4, HIt.new u c5⟩, fun c hcm => ?_, q⟩
      have le : s1.heap.objs.size ≤ c := by
        have hc' : c = s1.heap.objs.size + 4 ∨ c = s1.heap.objs.size + 2 ∨ c = s1.heap.objs.size + 3 ∨ c = s1.heap.objs.size ∨ c = s1.heap.objs.size + 1 := by simpa using hcm
        rcases hc' with rfl | rfl | rfl | rfl | rfl <;> first | exact Nat.le_add_right _ _ | exact Nat.le_refl _
      exact I1.fpOk le (I1.hok.fresh le)
/-! by data -/
def zipD (xs ys : List D) : List D := List.zipWith (fun a b => .tup [a, b]) xs ys
def wZip (wa wb : TDe) : TDi := fun xc rho M Phi => wa xc rho M fun d M1 => wb xc rho M1 fun e M2 => match seqOf M2 d, seqOf M2 e with
  | some xs, some ys => xs.length ≤ sizeLine → ys.length ≤ sizeLine → Phi (zipD xs ys) (fun M' => seqOf M' d = some xs ∧ seqOf M' e = some ys) M2
  | _, _ => False
/-- what a sequence is, by kind -/
theorem r_sqk {K : PySem.W.Frag} {T : TabT} {O0 : Av} {S : Sto} {x : V} {d : D} {ds : List D} (ok : SOk K O0 T S) (r : R K O0 S x d) (h : seqOf S.M d = some ds) : ∃ t p, x = .ref p ∧ (∃ vs, SqK K S.H t p vs ∧ Rs K O0 S vs ds ∧ ds.length ≤ sizeLine) ∧
    ∀ (S2 : Sto) (O1 : Av), CarryS O0 S O1 S2 → SOk K O1 T S2 → seqOf S2.M d = some ds → ∃ vs, SqK K S2.H t p vs ∧ Rs K O1 S2 vs ds := by
  unfold seqOf at h
  cases ht : tupOf d with
  | some es =>
    rw [ht] at h
    have e1 : es = ds := Option.some.inj h
    subst e1
    obtain ⟨p, vs, rfl, sq, rs, l⟩ := r_tup r ht
    refine ⟨true, p, rfl, ⟨vs, sq, rs, l⟩, fun S2 O1 c ok2 _ => ?_⟩
    obtain ⟨p2, vs2, e, sq2, rs2, _⟩ := r_tup (r.carry c : R K O1 S2 _ _) ht
    cases e
    exact ⟨vs2, sq2, rs2⟩
  | none =>
    rw [ht] at h
    obtain ⟨p, vs, rfl, sq, rs, l⟩ := r_lst ok r h
    refine ⟨false, p, rfl, ⟨vs, sq, rs, l⟩, fun S2 O1 c ok2 h2 => ?_⟩
    unfold seqOf at h2
    rw [ht] at h2
    obtain ⟨p2, vs2, e, sq2, rs2, _⟩ := r_lst ok2 (r.carry c : R K O1 S2 _ _) h2
    cases e
    exact ⟨vs2, sq2, rs2⟩
theorem zipD_get {xs ys : List D} {i : Nat} {d : D} (h : (zipD xs ys)[i]? = some d) : ∃ x y, xs[i]? = some x ∧ ys[i]? = some y ∧ d = .tup [x, y] := by
  unfold zipD at h
  rw [List.getElem?_zipWith] at h
  cases hx : xs[i]? with
  | none => rw [hx] at h; cases h
  | some x =>
    cases hy : ys[i]? with
    | none => rw [hx, hy] at h; cases h
    | some y =>
      rw [hx, hy] at h
      exact ⟨x, y, rfl, rfl, (Option.some.inj h).symm⟩
section
variable {X : Cx} {T : TabT} {W : WX} {e e2 : Expr} {wa wb : TDe} {p pos tpos : Pos} {elts : List Expr} {kk : Nat}
theorem id_zip (hg : Gl X "zip") (hm : X.mg "zip" = none) (ha : ED X T W e wa) (hb : ED X T W e2 wb)
    (hs : starEach [e, e2] X.env = (false, eval e X.env) :: starEach [e2] X.env := by rfl) (hs2 : starEach [e2] X.env = (false, eval e2 X.env) :: starEach [] X.env := by rfl) (hpl : (backTo pos (starEach [e2] X.env)).any (·.1) = false := by rfl) :
    ID X T W (.Tuple elts kk tpos) (.Call (.Name "zip" p) [e, e2] [] pos) (wZip wa wb) := by
  refine ⟨pi_of (pi_Z hg hm (pa_cons ha.run (pa_cons hb.run pa_nil hs2) hs) hs hpl) ?_⟩
  rintro σ H Q ⟨G, S, rho, xc, Phi, rfl, rel, ge, w, fin⟩
  refine ⟨G, S, rho, xc, _, rfl, rel, ge, w, fun d S1 x w1 s1 rel1 r1 => ?_⟩
  refine ⟨G, S1, rho, xc, _, rfl, rel1, ge, w1, fun d2 S2 y w2 s2 rel2 r2 => ?_⟩
  cases h1 : seqOf S2.M d with
  | none => rw [h1] at w2; exact w2.elim
  | some xs =>
    cases h2 : seqOf S2.M d2 with
    | none => rw [h1, h2] at w2; exact w2.elim
    | some ys =>
      rw [h1, h2] at w2
      obtain ⟨t, a, rfl, ⟨vs, sq, rs, l1⟩, f⟩ := r_sqk rel2.ok (s2.rp r1) h1
      obtain ⟨u, b, rfl, ⟨vs2, sq2, rs2, l2⟩, f2⟩ := r_sqk rel2.ok r2 h2
      refine ⟨t, u, a, b, vs, vs2, rfl, sq, sq2, fin _ _ S2 (w2 l1 l2) (s1.trans s2) rel2 _ fun n S3 O1 c ok3 hM => ?_⟩
      obtain ⟨us, q1, z1⟩ := f S3 O1 c ok3 hM.1
      obtain ⟨us2, q2, z2⟩ := f2 S3 O1 c ok3 hM.2
      refine ⟨fun d hd => ?_, fun hn => ?_⟩
      · obtain ⟨x, y, hx, hy, rfl⟩ := zipD_get hd
        obtain ⟨v, hv, rv⟩ := z1.get hx
        obtain ⟨v2, hv2, rv2⟩ := z2.get hy
        refine ⟨⟨us, us2, v, v2, q1, q2, hv, hv2⟩, fun xv H' yl => ?_⟩
        obtain ⟨pp, x', y', rfl, hp, rfl, g1, g2⟩ := yl
        have e1 := g1 us q1
        have e2 := g2 us2 q2
        rw [hv] at e1; rw [hv2] at e2
        cases e1; cases e2
        have s4 : Step S3 (S3.lay pp (.tup [v, v2])) := Step.lay hp
        refine ⟨S3.lay pp (.tup [v, v2]), rfl, rfl, s4, ok3.lay hp, .tup (.inl ⟨notO_of_free (S := S3) ok3 hp, upd_same⟩) (by show 2 ≤ sizeLine; decide) (s4.rps (.cons rv (.cons rv2 .nil)))⟩
      · have len : n = min xs.length ys.length := by rw [hn]; unfold zipD; exact List.length_zipWith
        refine ⟨us, us2, q1, q2, ?_, ?_, ?_⟩
        · rw [z1.len]; omega
        · rw [z2.len]; omega
        · rw [z1.len, z2.len]; omega
end
end DL

/-! dict(zip(a, b)), a and b lists or tuples -/
namespace DL
open PySem L2
section
variable {prog : Program} {w : World} {A : Around} {E : Value → Shared → Prop} {s : Shared} {z ti to p i j : Addr} {fa fb : List Addr} {na nb n : Nat} {Pa Pb : Nat → Value → Prop} {Sa Sb : Nat → Heap → Prop} {f : Bool} {ob : Obj}
theorem heldItem {Q : Value → Shared → Prop} (S : ZipSep2 z ti to i j fa fb) (Da : Draws prog w A i fa na Pa Sa) (Db : Draws prog w A j fb nb Pb Sb)
    (c1 : IsZipHeld s.heap z ti to p f) (cp : s.heap.get? p = some ob) (c2 : IsTupOf2 s.heap ti (.ref i) (.ref j)) (sa : Sa n s.heap) (sb : Sb n s.heap) (la : n < na) (lb : n < nb)
    (hQ : ∀ x y g tk, Pa n x → Pb n y → IsZipHeld g z ti to p true → Sa (n + 1) g → Sb (n + 1) g → IsTupOf2 g s.heap.objs.size x y →
      (∀ c o, c ≠ z → c ≠ i → c ≠ j → s.heap.get? c = some o → g.get? c = some o) → Q (.ref s.heap.objs.size) { s with heap := g, toks := tk }) :
    wpAny (model prog w) A (Builtin.«zip.__next__» ⟨[.ref z], []⟩) (fun r s' => ∃ v, r = .done (.ret v) ∧ Q v s') E s := by
  obtain ⟨hp, gn, dr, tk0, os⟩ := s
  have step1 : wpAny (model prog w) A (field (.ref z) 2) (fun v s' => v = .bool false ∧ s' = ⟨hp, gn, dr, tk0, os⟩) E ⟨hp, gn, dr, tk0, os⟩ := wpAny_field c1 rfl (x := .bool false) rfl ⟨rfl, rfl⟩
  show wpAny _ _ (field (.ref z) 2 >>= _) _ _ _
  refine wpAny_bind (wpAny_mono step1 (fun v s' hv => ?_) fun _ _ h => h)
  obtain ⟨rfl, rfl⟩ := hv
  have step2 : wpAny (model prog w) A (field (.ref z) 3) (fun v s' => v = .ref ti ∧ s' = ⟨hp, gn, dr, tk0, os⟩) E ⟨hp, gn, dr, tk0, os⟩ := wpAny_field c1 rfl (x := .ref ti) rfl ⟨rfl, rfl⟩
  show wpAny _ _ (field (.ref z) 3 >>= _) _ _ _
  refine wpAny_bind (wpAny_mono step2 (fun v s' hv => ?_) fun _ _ h => h)
  obtain ⟨rfl, rfl⟩ := hv
  refine wpAny_bind (wpAny_seqItems c2 rfl ?_)
  show wpAny _ _ (Builtin.SmallTypes.ownedTupleIsFree (.ref z) >>= _) _ _ _
  refine wpAny_bind (wpAny_tupleHeld_zip c1 cp fun g0 d0 k0 => ?_)
  replace k0 : Heap.SameBut z hp g0 := k0
  simp only [Bool.false_eq_true, if_false]
  refine wpAny_bind ?_
  rw [← Array.forIn_toList]
  simp only [List.forIn_cons, List.forIn_nil]
  refine wpAny_bind (wpAny_bind (wpAny_holding ?_))
  show wpAny _ _ (Builtin.SmallTypes.nextOf (.ref i) >>= _) _ _ ⟨g0, gn, dr, tk0, os⟩
  refine wpAny_bind (Da.item n _ _ _ la (Da.over sa k0 S.zf1) fun x g1 tk1 hx sa1 k1 => wpAny_pure ?_)
  replace k1 : Heap.SameBut i g0 g1 := k1
  refine wpAny_pure ?_
  refine wpAny_bind (wpAny_bind (wpAny_holding ?_))
  show wpAny _ _ (Builtin.SmallTypes.nextOf (.ref j) >>= _) _ _ ⟨g1, gn, dr, tk1, os⟩
  refine wpAny_bind (Db.item n _ _ _ lb (Db.over (Db.over sb k0 S.zf2) k1 S.sep1_2) fun y g2 tk2 hy sb2 k2 => wpAny_pure ?_)
  replace k2 : Heap.SameBut j g1 g2 := k2
  refine wpAny_pure (wpAny_pure ?_)
  show wpAny _ _ (newTuple [x, y] >>= _) _ _ _
  refine wpAny_bind (wpAny_newTuple ?_)
  have zs : g2.objs.size = hp.objs.size := by rw [k2.1, k1.1, k0.1]
  have up : ∀ c o, c ≠ z → c ≠ i → c ≠ j → hp.get? c = some o → g2.get? c = some o := fun c o h1 h2 h3 q => k2.extBut _ _ h3 (k1.extBut _ _ h2 (k0.extBut _ _ h1 q))
  have zh : IsZipHeld g2 z ti to p true := k2.extBut _ _ S.zi2 (k1.extBut _ _ S.zi1 d0)
  have pr : IsTupOf2 (g2.push { cls := .type "tuple", data := .seq #[x, y] }) g2.objs.size x y := Heap.get?_push_size _ rfl
  refine wpAny_pure ⟨_, rfl, ?_⟩
  show Q (.ref g2.objs.size) ⟨_, gn, dr, tk2, os⟩
  rw [zs] at pr ⊢
  exact hQ x y _ tk2 hx hy (Heap.get?_push_of_some _ zh) (Da.frame _ _ _ (Da.over sa1 k2 S.sep2_1) fun b _ o q => Heap.get?_push_of_some _ q) (Db.frame _ _ _ sb2 fun b _ o q => Heap.get?_push_of_some _ q) pr
    fun c o h1 h2 h3 q => Heap.get?_push_of_some _ (up c o h1 h2 h3 q)
theorem heldEnd {Q : PySem.Fin → Shared → Prop} (S : ZipSep2 z ti to i j fa fb) (Da : Draws prog w A i fa na Pa Sa) (Db : Draws prog w A j fb nb Pb Sb)
    (c1 : IsZipHeld s.heap z ti to p f) (cp : s.heap.get? p = some ob) (c2 : IsTupOf2 s.heap ti (.ref i) (.ref j)) (sa : Sa n s.heap) (sb : Sb n s.heap) (la : n ≤ na) (lb : n ≤ nb) (le : n = na ∨ n = nb)
    (hE : ∀ g tk e, (∀ c o, c ≠ z → c ≠ i → c ≠ j → s.heap.get? c = some o → g.get? c = some o) → (∃ o, g.get? e = some o ∧ o.cls = .type "StopIteration") → E (.ref e) { s with heap := g, toks := tk }) :
    wpAny (model prog w) A (Builtin.«zip.__next__» ⟨[.ref z], []⟩) Q E s := by
  obtain ⟨hp, gn, dr, tk0, os⟩ := s
  have step1 : wpAny (model prog w) A (field (.ref z) 2) (fun v s' => v = .bool false ∧ s' = ⟨hp, gn, dr, tk0, os⟩) E ⟨hp, gn, dr, tk0, os⟩ := wpAny_field c1 rfl (x := .bool false) rfl ⟨rfl, rfl⟩
  show wpAny _ _ (field (.ref z) 2 >>= _) _ _ _
  refine wpAny_bind (wpAny_mono step1 (fun v s' hv => ?_) fun _ _ h => h)
  obtain ⟨rfl, rfl⟩ := hv
  have step2 : wpAny (model prog w) A (field (.ref z) 3) (fun v s' => v = .ref ti ∧ s' = ⟨hp, gn, dr, tk0, os⟩) E ⟨hp, gn, dr, tk0, os⟩ := wpAny_field c1 rfl (x := .ref ti) rfl ⟨rfl, rfl⟩
  show wpAny _ _ (field (.ref z) 3 >>= _) _ _ _
  refine wpAny_bind (wpAny_mono step2 (fun v s' hv => ?_) fun _ _ h => h)
  obtain ⟨rfl, rfl⟩ := hv
  refine wpAny_bind (wpAny_seqItems c2 rfl ?_)
  show wpAny _ _ (Builtin.SmallTypes.ownedTupleIsFree (.ref z) >>= _) _ _ _
  refine wpAny_bind (wpAny_tupleHeld_zip c1 cp fun g0 d0 k0 => ?_)
  replace k0 : Heap.SameBut z hp g0 := k0
  simp only [Bool.false_eq_true, if_false]
  refine wpAny_bind ?_
  rw [← Array.forIn_toList]
  simp only [List.forIn_cons, List.forIn_nil]
  refine wpAny_bind (wpAny_bind (wpAny_holding ?_))
  show wpAny _ _ (Builtin.SmallTypes.nextOf (.ref i) >>= _) _ _ ⟨g0, gn, dr, tk0, os⟩
  by_cases hn : n = na
  · subst hn
    refine wpAny_bind (Da.done _ _ _ (Da.over sa k0 S.zf1) fun g1 e k1 he => ?_)
    exact hE g1 tk0 e (fun c o h1 h2 _ q => k1 _ _ h2 (k0.extBut _ _ h1 q)) he
  · have hb : n = nb := le.resolve_left hn
    subst hb
    refine wpAny_bind (Da.item n _ _ _ (Nat.lt_of_le_of_ne la hn) (Da.over sa k0 S.zf1) fun x g1 tk1 hx sa1 k1 => wpAny_pure ?_)
    replace k1 : Heap.SameBut i g0 g1 := k1
    refine wpAny_pure ?_
    refine wpAny_bind (wpAny_bind (wpAny_holding ?_))
    show wpAny _ _ (Builtin.SmallTypes.nextOf (.ref j) >>= _) _ _ ⟨g1, gn, dr, tk1, os⟩
    refine wpAny_bind (Db.done _ _ _ (Db.over (Db.over sb k0 S.zf2) k1 S.sep1_2) fun g2 e k2 he => ?_)
    exact hE g2 tk1 e (fun c o h1 h2 h3 q => k2 _ _ h3 (k1.extBut _ _ h2 (k0.extBut _ _ h1 q))) he
end
section
variable {prog : Program} {w : World} {A : Around} {E : Value → Shared → Prop} {s : Shared} {z ti to p i j : Addr} {fa fb : List Addr} {na nb n : Nat} {Pa Pb : Nat → Value → Prop} {Sa Sb : Nat → Heap → Prop} {f : Bool} {ob : Obj}
theorem nextHeld {Q : Option Value → Shared → Prop} (S : ZipSep2 z ti to i j fa fb) (Da : Draws prog w A.in1 i fa na Pa Sa) (Db : Draws prog w A.in1 j fb nb Pb Sb)
    (c1 : IsZipHeld s.heap z ti to p f) (cp : s.heap.get? p = some ob) (c2 : IsTupOf2 s.heap ti (.ref i) (.ref j)) (sa : Sa n s.heap) (sb : Sb n s.heap) (la : n < na) (lb : n < nb)
    (hQ : ∀ x y g tk, Pa n x → Pb n y → IsZipHeld g z ti to p true → Sa (n + 1) g → Sb (n + 1) g → IsTupOf2 g s.heap.objs.size x y →
      (∀ c o, c ≠ z → c ≠ i → c ≠ j → s.heap.get? c = some o → g.get? c = some o) → Q (some (.ref s.heap.objs.size)) { s with heap := g, toks := tk }) : wpAny (model prog w) A (pyNext (.ref z)) Q E s := by
  have ty : s.TypeIs (.ref z) "zip" := ⟨_, c1, rfl⟩
  unfold pyNext
  refine wpAny_bind (wpAny_attempt (wpAny_callSpecial?_slot (name := Str.ofString "__next__") ty F.slot_zip_next (wpAny_call_entry F.slot_zip_next ty F.entry_zip_next ?_ (F.args_zip_next_1 _))))
  exact heldItem S Da Db c1 cp c2 sa sb la lb fun x y g tk a1 a2 a3 a4 a5 a6 a7 => wpAny_pure (hQ x y g tk a1 a2 a3 a4 a5 a6 a7)
theorem nextHeldEnd {Q : Option Value → Shared → Prop} (S : ZipSep2 z ti to i j fa fb) (Da : Draws prog w A.in1 i fa na Pa Sa) (Db : Draws prog w A.in1 j fb nb Pb Sb)
    (c1 : IsZipHeld s.heap z ti to p f) (cp : s.heap.get? p = some ob) (c2 : IsTupOf2 s.heap ti (.ref i) (.ref j)) (sa : Sa n s.heap) (sb : Sb n s.heap) (la : n ≤ na) (lb : n ≤ nb) (le : n = na ∨ n = nb)
    (hQ : ∀ g tk, (∀ c o, c ≠ z → c ≠ i → c ≠ j → s.heap.get? c = some o → g.get? c = some o) → Q none { s with heap := g, toks := tk }) : wpAny (model prog w) A (pyNext (.ref z)) Q E s := by
  have ty : s.TypeIs (.ref z) "zip" := ⟨_, c1, rfl⟩
  unfold pyNext
  refine wpAny_bind (wpAny_attempt (wpAny_callSpecial?_slot (name := Str.ofString "__next__") ty F.slot_zip_next (wpAny_call_entry F.slot_zip_next ty F.entry_zip_next ?_ (F.args_zip_next_1 _))))
  refine heldEnd S Da Db c1 cp c2 sa sb la lb le fun g tk e kp he => ?_
  obtain ⟨oe, h1, h2⟩ := he
  exact wpAny_bind (wpAny_isInstance (T := "StopIteration") (b := true) ⟨oe, h1, h2⟩ isSubtype_stop (wpAny_pure (hQ g tk kp)))
end

section
variable {prog : Program} {w : World}
/-- zip over a and b as dict's argument -/
theorem pairArgZ (t u : Bool) {z ti to i j a b : Addr} (S : ZCells z ti to i j a b) (ai : a ≠ i) (bj : b ≠ j) (az : a ≠ z) (ato : a ≠ to) (aj : a ≠ j) (bz : b ≠ z) (bto : b ≠ to) (bi : b ≠ i) (xs ys : Array Value) :
    PairArg prog w "zip" z [z, ti, to, i, j, a, b] [z, to, i, j] (min xs.size ys.size) (fun n k v => xs[n]? = some k ∧ ys[n]? = some v)
      (fun h => IsZip h z ti to .none ∧ IsTupOf2 h ti (.ref i) (.ref j) ∧ (∃ x y, IsTupOf2 h to x y) ∧ (HIt h t i a 0 ∧ HSq h t a xs) ∧ (HIt h u j b 0 ∧ HSq h u b ys)) where
  type := fun s c => ⟨_, c.1, rfl⟩
  notDict := by decide
  keep := by
    rintro h h' ⟨c1, c2, ⟨x, y, c3⟩, ⟨c4, c5⟩, ⟨c6, c7⟩⟩ k
    exact ⟨k _ _ c1, k _ _ c2, ⟨x, y, k _ _ c3⟩, ⟨c4.at' fun o => k _ o, c5.at' fun o => k _ o⟩, ⟨c6.at' fun o => k _ o, c7.at' fun o => k _ o⟩⟩
  there := by
    rintro h ⟨c1, c2, ⟨x, y, c3⟩, ⟨c4, c5⟩, ⟨c6, c7⟩⟩ c hc
    have q : c = z ∨ c = ti ∨ c = to ∨ c = i ∨ c = j ∨ c = a ∨ c = b := by simpa using hc
    rcases q with rfl | rfl | rfl | rfl | rfl | rfl | rfl
    · exact ⟨_, c1⟩
    · exact ⟨_, c2⟩
    · exact ⟨_, c3⟩
    · obtain ⟨o, e, _⟩ := c4.obj; exact ⟨o, e⟩
    · obtain ⟨o, e, _⟩ := c6.obj; exact ⟨o, e⟩
    · exact c5.there
    · exact c7.there
  sub := fun c hc => by
    have q : c = z ∨ c = to ∨ c = i ∨ c = j := by simpa using hc
    rcases q with rfl | rfl | rfl | rfl <;> simp
  noKeys := fun A s Q E hA c h => getAttrOr_miss_zip c.1 rfl rfl rfl zip_no_keys (by decide +kernel) hA h
  iter := by
    rintro A s d Q E hA ⟨c1, c2, ⟨x0, y0, c3⟩, c4, c5⟩ hd hdf h
    have q : ¬ (d = z ∨ d = ti ∨ d = to ∨ d = i ∨ d = j ∨ d = a ∨ d = b) := by simpa using hdf
    have dz : d ≠ z := fun e => q (.inl e)
    have dti : d ≠ ti := fun e => q (.inr (.inl e))
    have dto : d ≠ to := fun e => q (.inr (.inr (.inl e)))
    have di : d ≠ i := fun e => q (.inr (.inr (.inr (.inl e))))
    have dj : d ≠ j := fun e => q (.inr (.inr (.inr (.inr (.inl e)))))
    have da : d ≠ a := fun e => q (.inr (.inr (.inr (.inr (.inr (.inl e))))))
    have db : d ≠ b := fun e => q (.inr (.inr (.inr (.inr (.inr (.inr e))))))
    have hA1 : A.in1.handled = none := hA
    refine wpAny_pyIter_zip c1 (h z [z, to, i, j] (fun n h => IsTupOf2 h ti (.ref i) (.ref j) ∧ (HIt h t i a n ∧ HSq h t a xs) ∧ (HIt h u j b n ∧ HSq h u b ys) ∧
      ((IsZip h z ti to .none ∧ ∃ x y, IsTupOf2 h to x y) ∨ ∃ p f ob, IsZipHeld h z ti to p f ∧ h.get? p = some ob ∧ p ≠ z ∧ p ≠ i ∧ p ≠ j ∧ p ≠ d)) s.heap s.toks ?_ ⟨c2, c4, c5, .inl ⟨c1, x0, y0, c3⟩⟩ (fun _ _ e => e) fun c hc => .inl hc)
    exact
      { off := fun hm => by
          have q : d = z ∨ d = to ∨ d = i ∨ d = j := by simpa using hm
          rcases q with e | e | e | e
          · exact dz e
          · exact dto e
          · exact di e
          · exact dj e
        frame := by
          rintro n h1 h2 ⟨e1, ⟨e2, e3⟩, ⟨e4, e5⟩, e6⟩ k
          refine ⟨k _ _ (Ne.symm dti) e1, ⟨e2.at' fun o => k _ o (Ne.symm di), e3.at' fun o => k _ o (Ne.symm da)⟩, ⟨e4.at' fun o => k _ o (Ne.symm dj), e5.at' fun o => k _ o (Ne.symm db)⟩, ?_⟩
          rcases e6 with ⟨e7, x, y, e8⟩ | ⟨p, f, ob, e7, e8, r1, r2, r3, r4⟩
          · exact .inl ⟨k _ _ (Ne.symm dz) e7, x, y, k _ _ (Ne.symm dto) e8⟩
          · exact .inr ⟨p, f, ob, k _ _ (Ne.symm dz) e7, k _ _ r4 e8, r1, r2, r3, r4⟩
        item := by
          rintro n s1 Q1 E1 hn ⟨e1, e2, e4, e6⟩ hds hQ
          have lx : n < xs.size := Nat.lt_of_lt_of_le hn (Nat.min_le_left ..)
          have ly : n < ys.size := Nat.lt_of_lt_of_le hn (Nat.min_le_right ..)
          have far : ∀ {c o}, s1.heap.get? c = some o → s1.heap.objs.size ≠ c := fun q => Nat.ne_of_gt (Heap.lt_size q)
          have fi : s1.heap.objs.size ≠ i := by obtain ⟨o, q, _⟩ := e2.1.obj; exact far q
          have fj : s1.heap.objs.size ≠ j := by obtain ⟨o, q, _⟩ := e4.1.obj; exact far q
          rcases e6 with ⟨e7, x, y, e8⟩ | ⟨p, f, ob, e7, e8, r1, r2, r3, r4⟩
          · refine wpAny_pyNext_zipD2_item S (drawsK t hA1 i a ai xs) (drawsK u hA1 j b bj ys) e7 e1 e8 e2 e4 lx ly fun v1 v2 g tk p1 p2 d1 d2 d3 d4 d5 d6 kp => ?_
            exact hQ s1.heap.objs.size v1 v2 g tk ⟨p1, p2⟩ (.inl ⟨_, d5, rfl, _, rfl⟩) ⟨kp _ _ S.TIz S.TITO S.TIi1 S.TIi2 e1, d3, d4, .inr ⟨_, false, _, d1, d5, far e7, fi, fj, Nat.ne_of_gt hds⟩⟩
              fun c o hc => kp c o (fun q => hc (by simp [q])) (fun q => hc (by simp [q])) (fun q => hc (by simp [q])) fun q => hc (by simp [q])
          · refine nextHeld S (drawsK t hA1 i a ai xs) (drawsK u hA1 j b bj ys) e7 e8 e1 e2 e4 lx ly fun v1 v2 g tk p1 p2 d1 d3 d4 d5 kp => ?_
            exact hQ s1.heap.objs.size v1 v2 g tk ⟨p1, p2⟩ (.inl ⟨_, d5, rfl, _, rfl⟩) ⟨kp _ _ S.TIz S.TIi1 S.TIi2 e1, d3, d4, .inr ⟨p, true, ob, d1, kp _ _ r1 r2 r3 e8, r1, r2, r3, r4⟩⟩
              fun c o hc => kp c o (fun q => hc (by simp [q])) (fun q => hc (by simp [q])) fun q => hc (by simp [q])
        done := by
          rintro s1 Q1 E1 ⟨e1, e2, e4, e6⟩ hQ
          have ends : min xs.size ys.size = xs.size ∨ min xs.size ys.size = ys.size := by omega
          rcases e6 with ⟨e7, x, y, e8⟩ | ⟨p, f, ob, e7, e8, r1, r2, r3, r4⟩
          · exact wpAny_pyNext_zipD2_end S (drawsK t hA1 i a ai xs) (drawsK u hA1 j b bj ys) e7 e1 e8 e2 e4 (Nat.min_le_left ..) (Nat.min_le_right ..) ends fun g tk kp =>
              hQ g tk fun c o hc => kp c o (fun q => hc (by simp [q])) (fun q => hc (by simp [q])) (fun q => hc (by simp [q])) fun q => hc (by simp [q])
          · exact nextHeldEnd S (drawsK t hA1 i a ai xs) (drawsK u hA1 j b bj ys) e7 e8 e1 e2 e4 (Nat.min_le_left ..) (Nat.min_le_right ..) ends fun g tk kp =>
              hQ g tk fun c o hc => kp c o (fun q => hc (by simp [q])) (fun q => hc (by simp [q])) fun q => hc (by simp [q]) }
end

/-! the rule -/
def tDictZ (K : PySem.W.Frag) (ta : TA) : TE := fun σ H Q => ta σ H fun vs H1 => ∃ t u a b ks ys, vs = [.ref a, .ref b] ∧ SqK K H1 t a (ks.map V.int) ∧ SqK K H1 u b ys ∧ ks.Nodup ∧ ks.length ≤ sizeLine ∧
  ∀ p, H1 p = none → Q (.ref p) (upd H1 p (.dK (List.zipWith (fun k y => ((.inl k : Key), y)) ks ys)))
theorem stored_new {κ : Type} [DecidableEq κ] {l : List (κ × Value)} {k : κ} {v : Value} (h : ∀ q, q ∈ l → q.1 ≠ k) : stored l k v = l ++ [(k, v)] := by
  unfold stored
  have e : (l.any fun kv => decide (kv.1 = k)) = false := by
    rw [List.any_eq_false]
    intro q hq
    simp [h q hq]
  rw [e]
  rfl
theorem merged_nodup {κ : Type} [DecidableEq κ] : ∀ (more acc : List (κ × Value)), ((acc ++ more).map (·.1)).Nodup → merged acc more = acc ++ more
  | [], acc, _ => by rw [List.append_nil]; rfl
  | (k, v) :: r, acc, h => by
    have h1 : ∀ q, q ∈ acc → q.1 ≠ k := fun q hq e => by
      rw [List.map_append, List.map_cons] at h
      exact (List.nodup_append.mp h).2.2 q.1 (List.mem_map_of_mem hq) k List.mem_cons_self e
    have e1 : merged acc ((k, v) :: r) = merged (stored acc k v) r := rfl
    rw [e1, stored_new h1, merged_nodup r (acc ++ [(k, v)]) (by rw [List.append_assoc]; exact h), List.append_assoc]
    rfl
theorem zipK_kv : ∀ {ks : List Int} {ys : List V} {as bs : List Value}, Vals (ks.map V.int) as → Vals ys bs → KV (List.zipWith (fun k y => ((.inl k : Key), y)) ks ys) (List.zipWith (fun k y => ((.inl k : Key), y)) ks bs)
  | [], _, _, _, _, _ => .nil
  | _ :: _, [], _, _, _, .nil => .nil
  | _ :: ks, _ :: ys, _, _, .cons _ r, .cons q z => .cons ⟨rfl, q⟩ (zipK_kv r z)
theorem zipK_keys {β : Type} : ∀ (ks : List Int) (bs : List β), (List.zipWith (fun k y => ((.inl k : Key), y)) ks bs).map (·.1) = (ks.take bs.length).map fun k => (.inl k : Key)
  | [], bs => by simp
  | _ :: _, [] => by simp
  | k :: ks, b :: bs => by simp [zipK_keys ks bs]
theorem vals_int_get {ks : List Int} {as : List Value} {n : Nat} {v : Value} (r : Vals (ks.map V.int) as) (h : as[n]? = some v) : ∃ k t, ks[n]? = some k ∧ v = .int k t := by
  induction ks generalizing as n with
  | nil => cases r; cases h
  | cons k ks ih =>
    cases r with
    | cons q r =>
      cases n with
      | zero =>
        have e := Option.some.inj h
        subst e
        obtain ⟨t, rfl⟩ := q
        exact ⟨k, t, rfl, rfl⟩
      | succ n => simpa using ih r (by simpa using h)
open PySem.Spec PyProof.Rows in
theorem pe_dictZ {X : Cx} {e e2 : Expr} {ta : TA} {p p2 pos q2 : Pos} (hg : Gl X "dict") (hm : X.mg "dict" = none) (hg2 : Gl X "zip") (hm2 : X.mg "zip" = none) (hc : X.calm = true) (ha : PA X [e, e2] ta)
    (hs : starEach [e, e2] X.env = (false, eval e X.env) :: starEach [e2] X.env := by rfl) (hpl : (backTo q2 (starEach [e2] X.env)).any (·.1) = false := by rfl) :
    PE X (.Call (.Name "dict" p) [.Call (.Name "zip" p2) [e, e2] [] q2] [] pos) (tDictZ X.K ta) := by
  refine ⟨fun pins s σ H Q I h => Call_ (ld_blt I hg hm PyProof.Rows.boot_dict (PyProof.Rows.callWith_type1 (PyProof.Rows.args_cons ?_ rfl) rfl rfl))⟩
  refine Call_ (ld_blt I hg2 hm2 PyProof.Rows.boot_zip (PyProof.Rows.callWith_type1 (thn (ha.run q2 pins s σ H _ I h) fun us s1 ⟨vs, H1, I1, r1, q1⟩ => ?_) hs hpl))
  obtain ⟨t, u, a, b, ks, ys, ev, qa, qb, nd, hl, q⟩ := q1
  subst ev
  cases r1 with
  | cons r rr =>
    cases rr with
    | cons r' rr =>
      cases rr; cases r; cases r'
      obtain ⟨as, ra, pa, la⟩ := sqk_raw I1 qa
      obtain ⟨bs, rb, pb, lb⟩ := sqk_raw I1 qb
      refine zip_begins2 (beginsK t a as.toArray) (beginsK u b bs.toArray) pa pb fun g c1 c2 c3 c4 c5 sz kp => PyProof.Rows.args_nil ?_
      have S : ZCells (s1.heap.objs.size + 4) (s1.heap.objs.size + 2) (s1.heap.objs.size + 3) s1.heap.objs.size (s1.heap.objs.size + 1) a b :=
        zip_sep2 (fun c hc => by rw [List.mem_singleton.mp hc]; exact la) (fun c hc => by rw [List.mem_singleton.mp hc]; exact lb)
      have far : ∀ {c : Addr} (n : Nat), c < s1.heap.objs.size → c ≠ s1.heap.objs.size + n := fun n h => Nat.ne_of_lt (Nat.lt_of_lt_of_le h (Nat.le_add_right _ _))
      have l1 : as.length = ks.length := by rw [← ra.length, List.length_map]
      have l2 := rb.length
      have PZ := pairArgZ (prog := X.prog) (w := X.w) t u S (far 0 la) (far 1 lb) (far 4 la) (far 3 la) (far 1 la) (far 4 lb) (far 3 lb) (far 0 lb) as.toArray bs.toArray
      have hh : X.A.handled = none := I1.ok.hd hc
      have ln : (List.zipWith (fun k y => ((.inl k : Key), y)) ks bs).length = min as.toArray.size bs.toArray.size := by rw [List.length_zipWith, List.size_toArray, List.size_toArray, l1]
      refine call_dict_pairs (s := { s1 with heap := g }) (knd := mixKind X.prog X.w) (kvs := List.zipWith (fun k y => ((.inl k : Key), y)) ks bs) PZ hh ⟨c1, c2, ⟨_, _, c3⟩, ⟨HIt.new t c4, pa.at' fun o => kp a o⟩, ⟨HIt.new u c5, pb.at' fun o => kp b o⟩⟩ ⟨ln, ?_⟩ ?_ fun g2 tk dd kp2 => ?_
      · rintro n key v ⟨h1, h2⟩
        obtain ⟨k, t', e1, rfl⟩ := vals_int_get ra (by simpa using h1)
        refine ⟨.inl k, ?_, mixKind_int _ _ k t'⟩
        have h2' : bs[n]? = some v := by simpa using h2
        rw [List.getElem?_zipWith, e1, h2']
      · rw [List.size_toArray, List.size_toArray, l1]
        exact Nat.le_trans (Nat.min_le_left ..) hl
      · have e1 : merged [] (List.zipWith (fun k y => ((.inl k : Key), y)) ks bs) = List.zipWith (fun k y => ((.inl k : Key), y)) ks bs := by
          refine (merged_nodup _ [] ?_).trans (List.nil_append _)
          rw [List.nil_append, zipK_keys]
          refine List.Pairwise.map _ (fun x y hxy e => hxy (Sum.inl.inj e)) (nd.sublist (List.take_sublist _ _))
        rw [e1] at dd
        have zg : ({ s1 with heap := g } : Shared).heap.objs.size = s1.heap.objs.size + 5 := sz
        rw [zg] at dd ⊢
        have old : ∀ c o, s1.heap.get? c = some o → g2.get? c = some o := fun c o e => by
          refine kp2 c o (fun hm => ?_) (kp c o e)
          have lt := Heap.lt_size e
          have q : c = s1.heap.objs.size + 4 ∨ c = s1.heap.objs.size + 3 ∨ c = s1.heap.objs.size ∨ c = s1.heap.objs.size + 1 := by simpa using hm
          rcases q with e | e | e | e
          · exact far 4 lt e
          · exact far 3 lt e
          · exact far 0 lt e
          · exact far 1 lt e
        have nb : (s1.heap.objs.size + 5 == sysModules) = false := by
          have := I1.big
          exact beq_false_of_ne (Nat.ne_of_gt (Nat.lt_of_lt_of_le this (Nat.le_add_right _ _)))
        have J : Inv X pins σ (upd H1 (s1.heap.objs.size + 5) (.dK (List.zipWith (fun k y => ((.inl k : Key), y)) ks ys))) { s1 with heap := g2, toks := tk } :=
          I1.laid old (Nat.le_add_right _ _) (dk_new (by rw [List.length_zipWith]; exact Nat.le_trans (Nat.min_le_left ..) hl) nb (zipK_kv ra rb) dd)
        exact ⟨.ref (s1.heap.objs.size + 5), _, J, rfl, q _ (I1.hok.fresh (Nat.le_add_right _ _))⟩
/-- dict(zip(wa, wb)): whole numbers, all other, as keys -/
def wDictZ (wa wb : TDe) : TDe := fun xc rho M Phi => wa xc rho M fun d M1 => wb xc rho M1 fun e M2 => match seqOf M2 d, seqOf M2 e with
  | some xs, some ys => ∃ ks : List Int, xs = ks.map D.int ∧ ks.Nodup ∧ Phi (.dct (List.zipWith (fun k y => (D.int k, y)) ks ys)) M2
  | _, _ => False
theorem rpK_zip {K : PySem.W.Frag} {H : Hp} {O : Av} {mu : Nat → Addr} {n : Nat} : ∀ {ks : List Int} {vs : List V} {ds : List D}, Rps K H O mu n vs ds → RpK K H O mu n (List.zipWith (fun k y => ((.inl k : Key), y)) ks vs) (List.zipWith (fun k y => (D.int k, y)) ks ds)
  | [], _, _, _ => by rw [List.zipWith_nil_left, List.zipWith_nil_left]; exact .nil
  | _ :: _, _, _, .nil => .nil
  | k :: ks, _, _, .cons h r => .cons (k := .inl k) h (rpK_zip r)
section
variable {X : Cx} {T : TabT} {W : WX} {e e2 : Expr} {wa wb : TDe} {p p2 pos q2 : Pos}
theorem en_dictZ (hg : Gl X "dict") (hm : X.mg "dict" = none) (hg2 : Gl X "zip") (hm2 : X.mg "zip" = none) (hc : X.calm = true) (ha : ED X T W e wa) (hb : ED X T W e2 wb)
    (hs : starEach [e, e2] X.env = (false, eval e X.env) :: starEach [e2] X.env := by rfl) (hs2 : starEach [e2] X.env = (false, eval e2 X.env) :: starEach [] X.env := by rfl) (hpl : (backTo q2 (starEach [e2] X.env)).any (·.1) = false := by rfl) :
    EN X T W (.Call (.Name "dict" p) [.Call (.Name "zip" p2) [e, e2] [] q2] [] pos) (wDictZ wa wb) := by
  refine ⟨pe_of (pe_dictZ hg hm hg2 hm2 hc (pa_cons ha.run (pa_cons hb.run pa_nil hs2) hs) hs hpl) ?_⟩
  rintro σ H Q ⟨G, S, rho, xc, Phi, rfl, rel, ge, w, fin⟩
  refine ⟨G, S, rho, xc, _, rfl, rel, ge, w, fun d S1 x w1 s1 rel1 r1 => ?_⟩
  refine ⟨G, S1, rho, xc, _, rfl, rel1, ge, w1, fun d2 S2 y w2 s2 rel2 r2 => ?_⟩
  cases h1 : seqOf S2.M d with
  | none => rw [h1] at w2; exact w2.elim
  | some xs =>
    cases h2 : seqOf S2.M d2 with
    | none => rw [h1, h2] at w2; exact w2.elim
    | some ys =>
      rw [h1, h2] at w2
      obtain ⟨ks, e3, nd, w2⟩ := w2
      subst e3
      obtain ⟨t, a, rfl, ⟨vs, sq, rs, l1⟩, _⟩ := r_sqk rel2.ok (s2.rp r1) h1
      obtain ⟨u, b, rfl, ⟨vs2, sq2, rs2, l2⟩, _⟩ := r_sqk rel2.ok r2 h2
      have ev := rs.ints
      subst ev
      rw [List.length_map] at l1
      refine ⟨t, u, a, b, ks, vs2, rfl, sq, sq2, nd, l1, fun pp hp => ?_⟩
      exact fin _ S2 pp (.dK (List.zipWith (fun k y => ((.inl k : Key), y)) ks vs2)) w2 (s1.trans s2) rel2 hp (.inl ⟨_, rfl, rpK_zip rs2⟩)
end
end DL

/-! short forms, and the rest of the words -/
namespace DL
open PySem L2
section
variable {X : Cx} {T : TabT} {W : WX} {e : Expr} {we : TDe} {pos : Pos}
/-- the name in slot i -/
theorem v (i : Nat) {x : Str} (h1 : X.N[i]? = some x := by rfl) (h2 : Vis X.env.scope x := by first | exact Or.inl rfl | exact Or.inr (Or.inl rfl) | exact Or.inr (Or.inr rfl)) (h3 : (x == ("__debug__" : Str)) = false := by decide)
    (h4 : (x == ("__classdict__" : Str)) = false := by decide) : ED X T W (.Name x pos) (wVar i) := ed_var i (pe_var h1 h2 h3 h4)
theorem gn {i : Nat} {x : Str} (nd : X.N.Nodup) (h1 : X.N[i]? = some x := by rfl) (h2 : Loc X.env.scope x := by first | exact Or.inl rfl | exact Or.inr rfl) (h3 : X.fn x = true ∨ X.env.scope.names.lookup x = some .local := by first | exact .inl rfl | exact .inr rfl | assumption) : GD X T [i] (.Name x pos) (gN i) := gd_name (pg_name nd h1 h2 h3)
theorem ss {i : Nat} {x : Str} {p2 : Pos} (nd : X.N.Nodup) (he : ED X T W e we) (h1 : X.N[i]? = some x := by rfl) (h2 : Loc X.env.scope x := by first | exact Or.inl rfl | exact Or.inr rfl) (h3 : swapsWith e (some (.Name x p2)) pos.line X.env = pure false := by rfl)
    (h4 : X.fn x = true ∨ X.env.scope.names.lookup x = some .local := by first | exact .inl rfl | exact .inr rfl | assumption) : SD X T W (.Assign [.Name x p2] e pos) (wSet i we) := sd_set nd h1 h2 he h3 h4
theorem sn {i : Nat} {x : Str} {p2 : Pos} (nd : X.N.Nodup) (he : EN X T W e we) (h1 : X.N[i]? = some x := by rfl) (h2 : Loc X.env.scope x := by first | exact Or.inl rfl | exact Or.inr rfl) (h3 : swapsWith e (some (.Name x p2)) pos.line X.env = pure false := by rfl)
    (h4 : X.fn x = true ∨ X.env.scope.names.lookup x = some .local := by first | exact .inl rfl | exact .inr rfl | assumption) : SD X T W (.Assign [.Name x p2] e pos) (wNew i we) := sd_new nd h1 h2 he h3 h4
theorem sa {i : Nat} {x : Str} {op : Operator} {r : R2} {f : Op2} {p2 : Pos} (ho : OpR X (inplaceOp op) r) (hd : OpD X.K r f) (nd : X.N.Nodup) (he : ED X T W e we) (h1 : X.N[i]? = some x := by rfl) (h2 : Loc X.env.scope x := by first | exact Or.inl rfl | exact Or.inr rfl)
    (h4 : X.fn x = true ∨ X.env.scope.names.lookup x = some .local := by first | exact .inl rfl | exact .inr rfl | assumption) : SD X T W (.AugAssign (.Name x p2) op e pos) (wAug i f we) := sd_aug ho hd nd h1 h2 he h4
abbrev oIAdd : Op2 := oI0 fun i j => .int (i + j)
theorem od_iadd {K : PySem.W.Frag} : OpD K (rI0 fun i j => V.int (i + j)) oIAdd := od_I0 fun _ _ _ _ _ _ _ => .int _
end
section
variable {X : Cx} {T : TabT} {W : WX} {i : Nat} {y : Str} {py : Pos} {elt tg iter : Expr} {ifs : List Expr} {scope : Scope} {own : List (Str × Nat)} {is : List Nat} {pos spos : Pos} {wi : TDi} {g : TDg} {wt : TDt} {we : TDe}
theorem lcset (hc : X.calm = true) (nd : X.N.Nodup) (hy : X.N[i]? = some y) (hyl : X.env.scope.names.lookup y = some .local) (hsw : swapsWith (.ListComp elt [⟨tg, iter, ifs, 0⟩] scope pos) (some (.Name y py)) spos.line X.env = pure true)
    (hi : ID X T W tg iter wi) (ok : BlkOk X.N X.env.scope scope own)
    (hg : ∀ (s : Shared) (H : Hp) (C : Addr) (cl : List (Str × Addr)) (fp : List Addr), GD (X.blk s H scope (compEnvC scope cl C X.env) fp) T is tg g)
    (ht : ∀ (s : Shared) (H : Hp) (C : Addr) (cl : List (Str × Addr)) (fp : List Addr), EPt (X.blk s H scope (compEnvC scope cl C X.env) fp) T W0 ifs wt)
    (he : ∀ (s : Shared) (H : Hp) (C : Addr) (cl : List (Str × Addr)) (fp : List Addr), ED (X.blk s H scope (compEnvC scope cl C X.env) fp) T W0 elt we)
    (his : ∀ i, i ∈ is → i ∈ own.map (·.2)) (hs : ∀ x, foldedSetIterable iter X.env x = pure x := by intro _; rfl) :
    SD X T W (.Assign [.Name y py] (.ListComp elt [⟨tg, iter, ifs, 0⟩] scope pos) spos) (wSet i (wLc wi g wt we (own.map (·.2)))) :=
  sd_setN (ps_setLc hc nd hy hyl hsw hi.run ok (fun s H C cl fp => (hg s H C cl fp).run) (fun s H C cl fp => (ht s H C cl fp).run) (fun s H C cl fp => (he s H C cl fp).run) hs) (ti_lc his)
theorem lcsetN (hc : X.calm = true) (nd : X.N.Nodup) (hy : X.N[i]? = some y) (hyl : X.env.scope.names.lookup y = some .local) (hsw : swapsWith (.ListComp elt [⟨tg, iter, ifs, 0⟩] scope pos) (some (.Name y py)) spos.line X.env = pure true)
    (hi : ID X T W tg iter wi) (ok : BlkOk X.N X.env.scope scope own)
    (hg : ∀ (s : Shared) (H : Hp) (C : Addr) (cl : List (Str × Addr)) (fp : List Addr), GD (X.blk s H scope (compEnvC scope cl C X.env) fp) T is tg g)
    (ht : ∀ (s : Shared) (H : Hp) (C : Addr) (cl : List (Str × Addr)) (fp : List Addr), EPt (X.blk s H scope (compEnvC scope cl C X.env) fp) T W0 ifs wt)
    (he : ∀ (s : Shared) (H : Hp) (C : Addr) (cl : List (Str × Addr)) (fp : List Addr), ED (X.blk s H scope (compEnvC scope cl C X.env) fp) T W0 elt we)
    (his : ∀ i, i ∈ is → i ∈ own.map (·.2)) (hs : ∀ x, foldedSetIterable iter X.env x = pure x := by intro _; rfl) :
    SD X T W (.Assign [.Name y py] (.ListComp elt [⟨tg, iter, ifs, 0⟩] scope pos) spos) (wNew i (wLc wi g wt we (own.map (·.2)))) :=
  sd_newN (ps_setLc hc nd hy hyl hsw hi.run ok (fun s H C cl fp => (hg s H C cl fp).run) (fun s H C cl fp => (ht s H C cl fp).run) (fun s H C cl fp => (he s H C cl fp).run) hs) (ti_lc his)
end
theorem mem1 {K : PySem.W.Frag} {C : Addr} {f : Str} (a : Cls K C) (b : NoAttr K C f) : ∀ D, D ∈ [C] → Cls K D ∧ NoAttr K D f := fun D h => by
  rw [List.mem_singleton.mp h]; exact ⟨a, b⟩
theorem mem2 {K : PySem.W.Frag} {C C2 : Addr} {f : Str} (a : Cls K C) (b : NoAttr K C f) (a2 : Cls K C2) (b2 : NoAttr K C2 f) : ∀ D, D ∈ [C, C2] → Cls K D ∧ NoAttr K D f := fun D h => by
  rcases List.mem_cons.mp h with e | e
  · rw [e]; exact ⟨a, b⟩
  · rw [List.mem_singleton.mp e]; exact ⟨a2, b2⟩
abbrev BtB (x : Str) (i : String) : Prop := bootBuiltins x = some (.builtin i)
abbrev BtT (x : Str) (i : String) : Prop := bootBuiltins x = some (.type i)
theorem bt_len : BtB "len" "len" := PySem.boot_len
theorem bt_sum : BtB "sum" "sum" := PyProof.Rows.boot_sum
theorem bt_max : BtB "max" "max" := PyProof.Rows.boot_max
theorem bt_min : BtB "min" "min" := PyProof.Rows.boot_min
theorem bt_abs : BtB "abs" "abs" := PyProof.Rows.boot_abs
theorem bt_all : BtB "all" "all" := PyProof.Rows.boot_all
theorem bt_any : BtB "any" "any" := PyProof.Rows.boot_any
theorem bt_sorted : BtB "sorted" "sorted" := PyProof.Rows.boot_sorted
theorem bt_isinstance : BtB "isinstance" "isinstance" := PyProof.Rows.boot_isinstance
theorem bt_int : BtT "int" "int" := PyProof.Rows.boot_int
theorem bt_str : BtT "str" "str" := PyProof.Rows.boot_str
theorem bt_bool : BtT "bool" "bool" := PyProof.Rows.boot_bool
theorem bt_list : BtT "list" "list" := PyProof.Rows.boot_list
theorem bt_tuple : BtT "tuple" "tuple" := PyProof.Rows.boot_tuple
theorem bt_dict : BtT "dict" "dict" := PyProof.Rows.boot_dict
theorem bt_set : BtT "set" "set" := PyProof.Rows.boot_set
theorem bt_range : BtT "range" "range" := PyProof.Rows.boot_range
theorem bt_zip : BtT "zip" "zip" := PyProof.Rows.boot_zip
theorem bt_enumerate : BtT "enumerate" "enumerate" := PyProof.Rows.boot_enumerate

/-! ### try -/
def tryXc (xc : XC) (F : Fin) : List ((Addr → Bool → Prop) × TDs) → XC
  | [] => xc
  | (m, w) :: r => fun x rho M => ∃ b, m x.1 b ∧ if b = true then w xc0 F rho M else tryXc xc F r x rho M
def wTry (wb : TDs) (hs : List ((Addr → Bool → Prop) × TDs)) : TDs := fun xc F rho M => wb (tryXc xc F hs) F rho M
inductive HdsD (X : Cx) (T : TabT) : List ExceptHandler → List ((Addr → Bool → Prop) × TDs) → List (Value × (Addr → Value → Option Addr → TS)) → Prop
  | nil : HdsD X T [] [] []
  | cons {x : Str} {c : Value} {m : Addr → Bool → Prop} {w : TDs} {b0 : Stmt} {suite : List Stmt} {np p2 : Pos} {hds : List ExceptHandler} {l : List ((Addr → Bool → Prop) × TDs)} {l' : List (Value × (Addr → Value → Option Addr → TS))} (hc : Names X x c)
      (hm : ∀ C b, m C b → PySem.W.exmOne X.K (.ref C) c = some b)
      (hsu : ∀ (a : Addr) (oe : Obj) (cls : Value) (d : Option Addr) (pn : List (Addr × Obj)), Zc cls d oe → (∃ vs, oe.data = .fields vs) → SDs (X.suite a ((a, oe) :: pn)) T W0 (b0 :: suite) w)
      (r : HdsD X T hds l l') : HdsD X T (.ExceptHandler (some (.Name x np)) none (b0 :: suite) p2 :: hds) ((m, w) :: l) ((c, fun _ _ _ => tS X.K T W0 w) :: l')
section
variable {X : Cx} {T : TabT} {W : WX} {hds : List ExceptHandler} {l : List ((Addr → Bool → Prop) × TDs)} {l' : List (Value × (Addr → Value → Option Addr → TS))}
theorem HdsD.ok (h : HdsD X T hds l l') : HdsOk X hds l' := by
  induction h with
  | nil => exact .nil
  | cons hc hm hsu r ih => exact .cons hc (fun a oe cls d pn h1 h2 => (hsu a oe cls d pn h1 h2).run) ih
theorem HdsD.ge {G : Ctx} {F : Fin} {Dn : Ends} {xc : XC} (h : HdsD X T hds l l') (ge : GE X.K T G W xc) (ends : EndsOk X.K T G F Dn) : GE X.K T G (wMany X.K W Dn l') (tryXc xc F l) := by
  induction h with
  | nil => exact ge
  | @cons x c m w b0 suite np p2 hds l l' hc hm hsu r ih =>
    intro x S rho σ cls dx q rel xr
    obtain ⟨b, hx, q'⟩ := q
    refine ⟨b, by rw [xr.1]; exact hm _ _ hx, fun hb a _ => ?_, fun hb => ?_⟩
    · rw [if_pos hb] at q'
      exact ⟨G, S, rho, xc0, F, rfl, rel, GE.none, q', ends⟩
    · rw [if_neg (by rw [hb]; exact Bool.false_ne_true)] at q'
      exact ih x S rho σ cls dx q' rel xr
theorem sd_try {h0 : ExceptHandler} {body : List Stmt} {wb : TDs} {pos : Pos} (hs : X.stack = X.env :: X.outer) (hf : X.env.frame = some X.env.locals) (tk : Takes X W)
    (hb : ∀ (W' : WX) (pn : List (Addr × Obj)) (xe : Value → Shared → Prop), Takes (X.tr pn xe) W' → PassesOwn (model X.prog X.w) X.A X.env xe → SDs (X.tr pn xe) T W' body wb)
    (hh : HdsD X T (h0 :: hds) l l') : SD X T W (.Try body (h0 :: hds) [] [] pos) (wTry wb l) := by
  refine ⟨ps_of (ps_try_many hs hf tk (tb := fun W' => tS X.K T W' wb) (fun W' pn xe t p => (hb W' pn xe t p).run) hh.ok) ?_⟩
  rintro Dn σ H ⟨G, S, rho, xc, F, rfl, rel, ge, w, ends⟩
  exact ⟨G, S, rho, _, F, rfl, rel, hh.ge ge ends, w, ends⟩
end

/-! ### a list of new lists -/
def wNewsN : TDa := wNil
/-- each value a new thing with a number -/
def wConsN (wa : TDe) (wr : TDa) : TDa := fun xc rho M Phi => wa xc rho M fun d M1 => wr xc rho (M1 ++ [d]) fun ds M2 => Phi (.loc M1.length :: ds) M2
section
variable {X : Cx} {T : TabT} {W : WX} {a : Expr} {es : List Expr} {wa : TDe} {wr : TDa}
theorem ea_consN (ha : EN X T W a wa) (hr : EAn X T W es wr) (hs : starEach (a :: es) X.env = (false, eval a X.env) :: starEach es X.env := by rfl) : EAn X T W (a :: es) (wConsN wa wr) := by
  refine ⟨pa_of (pa_cons ha.run hr.run hs) ?_⟩
  rintro σ H Q ⟨G, S, rho, xc, Phi, rfl, rel, ge, w, fin⟩
  refine ⟨G, S, rho, xc, _, rfl, rel, ge, w, fun d S1 p o w1 s1 rel1 hp c => ?_⟩
  have s2 : Step S1 (S1.add p o d) := Step.add hp
  have rel2 : Rel X.K T G (S1.add p o d) rho σ := rel1.step' s2 (rel1.ok.add hp c)
  have em : (S1.add p o d).mu S1.M.length = p := if_pos rfl
  have lt : S1.M.length < (S1.add p o d).M.length := by
    show S1.M.length < (S1.M ++ [d]).length
    rw [List.length_append, List.length_singleton]
    exact Nat.lt_succ_self _
  have rr : R X.K G.O0 (S1.add p o d) (.ref p) (.loc S1.M.length) := by
    have q : R X.K G.O0 (S1.add p o d) (.ref ((S1.add p o d).mu S1.M.length)) (.loc S1.M.length) := .loc lt
    rw [em] at q
    exact q
  refine ⟨G, S1.add p o d, rho, xc, _, rfl, rel2, ge, w1, fun ds S3 vs w3 s3 rel3 r3 l3 => ?_⟩
  exact fin (.loc S1.M.length :: ds) S3 (.ref p :: vs) w3 ((s1.trans s2).trans s3) rel3 (.cons (s3.rp rr) r3) (congrArg (· + 1) l3)

/-! ### [..] * n -/
def wRep (wa wb : TDe) : TDe := fun xc rho M Phi => wa xc rho M fun d M1 => wb xc rho M1 fun e M2 => match d, e with
  | .lst xs, .int k => (-(2 ^ 63) ≤ k ∧ k < 2 ^ 63 ∧ xs.length * k.toNat ≤ sizeLine) ∧ Phi (.lst (List.replicate k.toNat xs).flatten) M2
  | _, _ => False
theorem Rps.rep {K : PySem.W.Frag} {H : Hp} {O : Av} {mu : Nat → Addr} {n : Nat} {vs : List V} {ds : List D} (r : Rps K H O mu n vs ds) : ∀ k : Nat, Rps K H O mu n (List.replicate k vs).flatten (List.replicate k ds).flatten
  | 0 => .nil
  | k + 1 => by
    rw [List.replicate_succ, List.replicate_succ, List.flatten_cons, List.flatten_cons]
    exact r.append (Rps.rep r k)
theorem en_rep {b : Expr} {wb : TDe} {pos : Pos} (ha : EN X T W a wa) (hb : ED X T W b wb) : EN X T W (.BinOp a .Mult b pos) (wRep wa wb) := by
  refine ⟨pe_of (pe_op op_rep ha.run hb.run) ?_⟩
  rintro σ H Q ⟨G, S, rho, xc, Phi, rfl, rel, ge, w, fin⟩
  refine ⟨G, S, rho, xc, _, rfl, rel, ge, w, fun d S1 p o w1 s1 rel1 hp c => ?_⟩
  have s2 : Step S1 (S1.lay p o) := Step.lay hp
  refine ⟨G, S1.lay p o, rho, xc, _, rfl, rel1.step' s2 (rel1.ok.lay hp), ge, w1, fun e S3 y w3 s3 rel3 r3 => ?_⟩
  split at w3
  · rename_i xs k
    obtain ⟨vs, rfl, hl, rs⟩ := c
    have ho : S3.H p = some (.lst vs) := s3.keep p _ upd_same (fun ⟨k, hk, q⟩ => rel1.ok.there hk (by rw [show S1.mu k = p from q]; exact hp)) (fun _ z => by cases z)
    have rs3 : Rs X.K G.O0 S3 vs xs := s3.rps (s2.rps rs)
    refine ⟨p, k, vs, rfl, rp_int r3, ho, w3.1.1, w3.1.2.1, by rw [rs.len]; exact w3.1.2.2, fun q hq => ?_⟩
    refine fin _ S3 q _ w3.2 ((s1.trans s2).trans s3) rel3 hq ⟨_, rfl, ?_, rs3.rep k.toNat⟩
    rw [List.length_flatten, List.map_replicate, List.sum_replicate_nat, Nat.mul_comm]
    exact w3.1.2.2
  · exact w3.elim
end

/-! ### list(range(..)), tuple(range(..)) -/
def wListR (wi : TDi) : TDe := fun xc rho M Phi => wi xc rho M fun items _ M1 => items.length ≤ 2 ^ 24 ∧ Phi (.lst items) M1
def wTupR (wi : TDi) : TDe := fun xc rho M Phi => wi xc rho M fun items _ M1 => items.length ≤ 2 ^ 24 ∧ Phi (.tup items) M1
theorem rps_rg {K : PySem.W.Frag} {H : Hp} {O : Av} {mu : Nat → Addr} {n : Nat} (a b : Int) : Rps K H O mu n (rgV a b) (rngD a (b - a).toNat) := by
  unfold rgV rngD
  have all : ∀ l : List Nat, Rps K H O mu n (l.map fun i => V.int (a + (i : Nat))) (l.map fun i => D.int (a + (i : Nat))) := by
    intro l
    induction l with
    | nil => exact .nil
    | cons i l ih => exact .cons (.int _) ih
  exact all _
theorem rng_len (lo : Int) (n : Nat) : (rngD lo n).length = n := by unfold rngD; rw [List.length_map, List.length_range]
structure RgE (X : Cx) (T : TabT) (W : WX) (e : Expr) (w : TDi) : Prop where
  run : ∃ te, PRg X e te ∧ ∀ σ H (Q : Int → Int → Hp → Prop), (∃ G S rho xc Phi, S.H = H ∧ Rel X.K T G S rho σ ∧ GE X.K T G W xc ∧ w xc rho S.M Phi ∧
    ∀ a b g S', (-(2 ^ 62) ≤ a ∧ a < 2 ^ 62 ∧ -(2 ^ 62) ≤ b ∧ b < 2 ^ 62) → Phi (rngD a (b - a).toNat) g S'.M → Step S S' → Rel X.K T G S' rho σ → Q a b S'.H) → te σ H Q
section
variable {X : Cx} {T : TabT} {W : WX} {a b e : Expr} {wa wb : TDe} {wi : TDi} {p pos : Pos}
def wRg1 (wa : TDe) : TDi := fun xc rho M Phi => wa xc rho M fun d M1 => isI (fun j => (-(2 ^ 62) ≤ j ∧ j < 2 ^ 62) ∧ Phi (rngD 0 j.toNat) (fun _ => True) M1) d
def wRg2 (wa wb : TDe) : TDi := fun xc rho M Phi => wa xc rho M fun d M1 => wb xc rho M1 fun d2 M2 => match d, d2 with
  | .int i, .int j => (-(2 ^ 62) ≤ i ∧ i < 2 ^ 62 ∧ -(2 ^ 62) ≤ j ∧ j < 2 ^ 62) ∧ Phi (rngD i (j - i).toNat) (fun _ => True) M2
  | _, _ => False
theorem rg1 (hg : Gl X "range") (hm : X.mg "range" = none) (ha : ED X T W a wa) (na : starEach [a] X.env = (false, eval a X.env) :: starEach [] X.env := by rfl) : RgE X T W (.Call (.Name "range" p) [a] [] pos) (wRg1 wa) := by
  refine ⟨_, prg_1 hg hm ha.run na, ?_⟩
  rintro σ H Q ⟨G, S, rho, xc, Phi, rfl, rel, ge, w, fin⟩
  refine ⟨G, S, rho, xc, _, rfl, rel, ge, w, fun d S1 x w1 s1 rel1 r1 => ?_⟩
  obtain ⟨j, rfl, hj, q⟩ := isI_some w1
  refine ⟨j, rp_int r1, fin 0 j (fun _ => True) S1 ⟨by decide, by decide, hj.1, hj.2⟩ ?_ s1 rel1⟩
  rw [Int.sub_zero]
  exact q
theorem rg2 (hg : Gl X "range") (hm : X.mg "range" = none) (ha : ED X T W a wa) (hb : ED X T W b wb) (na : starEach [a, b] X.env = (false, eval a X.env) :: starEach [b] X.env := by rfl) (nb : starEach [b] X.env = (false, eval b X.env) :: starEach [] X.env := by rfl)
    (hp : (backTo pos (starEach [b] X.env)).any (·.1) = false := by rfl) : RgE X T W (.Call (.Name "range" p) [a, b] [] pos) (wRg2 wa wb) := by
  refine ⟨_, prg_2 hg hm ha.run hb.run na nb hp, ?_⟩
  rintro σ H Q ⟨G, S, rho, xc, Phi, rfl, rel, ge, w, fin⟩
  refine ⟨G, S, rho, xc, _, rfl, rel, ge, w, fun d S1 x w1 s1 rel1 r1 => ?_⟩
  refine ⟨G, S1, rho, xc, _, rfl, rel1, ge, w1, fun d2 S2 y w2 s2 rel2 r2 => ?_⟩
  split at w2
  · rename_i i j
    exact ⟨i, j, rp_int r1, rp_int r2, fin i j _ S2 w2.1 w2.2 (s1.trans s2) rel2⟩
  · exact w2.elim
theorem en_listR (hc : X.calm = true) (hg : Gl X "list") (hm : X.mg "list" = none) (he : RgE X T W e wi) (na : starEach [e] X.env = (false, eval e X.env) :: starEach [] X.env := by rfl) : EN X T W (.Call (.Name "list" p) [e] [] pos) (wListR wi) := by
  obtain ⟨te, h1, h2⟩ := he.run
  refine ⟨pe_of (pe_listRg hc hg hm h1 na) ?_⟩
  rintro σ H Q ⟨G, S, rho, xc, Phi, rfl, rel, ge, w, fin⟩
  refine h2 σ S.H _ ⟨G, S, rho, xc, _, rfl, rel, ge, w, fun a b g S1 bd w1 s1 rel1 => ?_⟩
  obtain ⟨hl, w1⟩ := w1
  rw [rng_len] at hl
  exact ⟨⟨bd.1, bd.2.1, bd.2.2.1, bd.2.2.2, hl⟩, fun q hq => fin _ S1 q _ w1 s1 rel1 hq ⟨_, rfl, by rw [rng_len, sizeLine_eq]; omega, rps_rg a b⟩⟩
theorem ed_tupR (hc : X.calm = true) (hg : Gl X "tuple") (hm : X.mg "tuple" = none) (he : RgE X T W e wi) (na : starEach [e] X.env = (false, eval e X.env) :: starEach [] X.env := by rfl) : ED X T W (.Call (.Name "tuple" p) [e] [] pos) (wTupR wi) := by
  obtain ⟨te, h1, h2⟩ := he.run
  refine ⟨pe_of (pe_tupRg hc hg hm h1 na) ?_⟩
  rintro σ H Q ⟨G, S, rho, xc, Phi, rfl, rel, ge, w, fin⟩
  refine h2 σ S.H _ ⟨G, S, rho, xc, _, rfl, rel, ge, w, fun a b g S1 bd w1 s1 rel1 => ?_⟩
  obtain ⟨hl, w1⟩ := w1
  rw [rng_len] at hl
  refine ⟨⟨bd.1, bd.2.1, bd.2.2.1, bd.2.2.2, hl⟩, fun q hq => ?_⟩
  have s2 : Step S1 (S1.lay q (.tup (rgV a b))) := Step.lay hq
  exact fin _ (S1.lay q (.tup (rgV a b))) _ w1 (s1.trans s2) (rel1.step' s2 (rel1.ok.lay hq)) (.tup (.inl ⟨notO_of_free (S := S1) rel1.ok hq, upd_same⟩) (by rw [rng_len, sizeLine_eq]; omega) (rps_rg a b))
end
end DL

/-! len(set(xs)), d.get(k, x), sorted pairs, isinstance(x, (A, B)) -/
namespace DL
open PySem L2
section
/-! ### len(set(xs)) -/
def distinct (ns : List Int) : List Int := PyProof.Rows.firstMet (fun i => ns.getD i 0) ns.length
theorem distinct_nodup {ns : List Int} (h : ns.Nodup) : distinct ns = ns := by
  have e := RZ.firstMet_nodup h ns.length (Nat.le_refl _)
  rw [List.take_length] at e
  exact e
def tLenSetD (K : PySem.W.Frag) (ta : TE) : TE := fun σ H Q => ta σ H fun x H1 => ∃ (l : Addr) (ns : List Int), x = .ref l ∧ SqL K H1 l (ns.map V.int) ∧ ns.length ≤ 4000 ∧ Q (.int ((distinct ns).length : Nat)) H1
open PySem.Spec PyProof.Rows in
theorem pe_lenSetD {X : Cx} {a : Expr} {ta : TE} {p p2 q pos : Pos} (hc : X.calm = true) (hg : Gl X "len") (hm : X.mg "len" = none) (hg2 : Gl X "set") (hm2 : X.mg "set" = none) (ha : PE X a ta)
    (na : starEach [a] X.env = (false, eval a X.env) :: starEach [] X.env := by rfl) : PE X (.Call (.Name "len" p) [.Call (.Name "set" p2) [a] [] q] [] pos) (tLenSetD X.K ta) := by
  refine ⟨fun pins s σ H Q I h => Call_ (ld_blt I hg hm PySem.boot_len (PyProof.Rows.callWith_builtin1 (PyProof.Rows.args_cons ?_ rfl) rfl rfl))⟩
  refine Call_ (ld_blt I hg2 hm2 PyProof.Rows.boot_set (PyProof.Rows.callWith_type1 (PyProof.Rows.args_cons (thn (ha.run pins s σ H _ I h) fun v s1 ⟨x, H1, I1, r1, q1⟩ => PyProof.Rows.args_nil ?_) na) na rfl))
  obtain ⟨l, ns, ex, hq, hl, q1⟩ := q1
  subst ex
  cases r1
  obtain ⟨its, r, pl, hz⟩ := I1.list hq
  have sz : its.toArray.size = ns.length := by rw [List.size_toArray, ← r.length, List.length_map]
  refine call_set_list (I1.ok.hd hc) pl.isList (ns := ns) (by simpa using RZ.intsAre_vals r) (by rw [sz]; unfold scanBound; omega) fun g tk hS kp => PyProof.Rows.args_nil ?_
  rw [sz] at hS
  obtain ⟨o, es, ep, t, ho, hex, hd, _, _, _, hf, hn⟩ := hS
  have le := PyProof.Rows.firstMet_length_le (fun i => ns.getD i 0) ns.length
  have J : Inv X pins σ H1 { s1 with heap := g, toks := tk } := I1.kept fun b o e => kp b o (Heap.lt_size e) e
  exact call_len_set ho hex hd hf (by rw [hn] <;> omega) ⟨.int (distinct ns).length, H1, J.tok _, ⟨_, by rw [hn]; rfl⟩, q1⟩
end
def wLenSet (wa : TDe) : TDe := fun xc rho M Phi => wa xc rho M fun d M1 => match d with
  | .lst ds => ∃ ns : List Int, ds = ns.map D.int ∧ ns.length ≤ 4000 ∧ Phi (.int ((distinct ns).length : Nat)) M1
  | _ => False
section
variable {X : Cx} {T : TabT} {W : WX} {a e f o : Expr} {wa wo we wf : TDe} {p p2 q pos apos cpos : Pos}
theorem ed_lenset (hg : Gl X "len") (hm : X.mg "len" = none) (hg2 : Gl X "set") (hm2 : X.mg "set" = none) (hc : X.calm = true) (ha : ED X T W a wa)
    (na : starEach [a] X.env = (false, eval a X.env) :: starEach [] X.env := by rfl) : ED X T W (.Call (.Name "len" p) [.Call (.Name "set" p2) [a] [] q] [] pos) (wLenSet wa) := by
  refine ⟨pe_of (pe_lenSetD hc hg hm hg2 hm2 ha.run na) ?_⟩
  rintro σ H Q ⟨G, S, rho, xc, Phi, rfl, rel, ge, w, fin⟩
  refine ⟨G, S, rho, xc, _, rfl, rel, ge, w, fun d S1 x w1 s1 rel1 r1 => ?_⟩
  cases d with
  | lst ds =>
    obtain ⟨ns, rfl, hl, w1⟩ := w1
    obtain ⟨p, vs, rfl, sq, rs, _⟩ := r_lst rel1.ok r1 rfl
    rw [rs.ints] at sq
    exact ⟨p, ns, rfl, sq, hl, fin _ S1 _ w1 s1 rel1 (.int _)⟩
  | _ => exact w1.elim

/-! ### d.get(k, x) -/
def assocI (k : Int) : List (D × D) → Option D
  | [] => none
  | (.int i, d) :: r => if i = k then some d else assocI k r
  | _ :: r => assocI k r
def intKeys : List (D × D) → Bool
  | [] => true
  | (.int _, _) :: r => intKeys r
  | _ => false
def wDGet (wo we wf : TDe) : TDe := fun xc rho M Phi => wo xc rho M fun d M1 => (match dctOf M1 d with | some _ => True | none => False) ∧ we xc rho M1 fun k M2 => wf xc rho M2 fun z M3 => match dctOf M3 d, k with
  | some kvs, .int i => intKeys kvs = true ∧ Phi ((assocI i kvs).getD z) M3
  | _, _ => False
theorem r_dct {K : PySem.W.Frag} {O0 : Av} {S : Sto} {x : V} {d : D} {kvs : List (D × D)} (ok : SOk K O0 T S) (r : R K O0 S x d) (h : dctOf S.M d = some kvs) : ∃ p, x = .ref p ∧ ((∃ us, S.H p = some (.dK us) ∧ RpK K S.H (S.O O0) S.mu S.M.length us kvs) ∨ ∃ us es, S.H p = some (.dT us) ∧ kvs = (.non, .non) :: es ∧ RpT K S.H (S.O O0) S.mu S.M.length us es) := by
  cases d with
  | dct ds =>
    have e : ds = kvs := Option.some.inj h
    subst e
    cases r with
    | dK h1 h2 q => exact ⟨_, rfl, .inl ⟨_, h2, q⟩⟩
    | dT h1 h2 q => exact ⟨_, rfl, .inr ⟨_, _, h2, rfl, q⟩⟩
  | loc k =>
    cases r with
    | loc hk =>
      unfold dctOf at h
      simp only at h
      cases e : S.M[k]? with
      | none => rw [e] at h; cases h
      | some u =>
        rw [e] at h
        cases u with
        | dct ds =>
          have e3 : ds = kvs := Option.some.inj h
          subst e3
          obtain ⟨o, e1, q⟩ := ok.obj k _ e
          rcases q with ⟨us, e2, q⟩ | ⟨us, es, e2, e4, q⟩
          · exact ⟨_, rfl, .inl ⟨us, by rw [e1, e2], q⟩⟩
          · exact ⟨_, rfl, .inr ⟨us, es, by rw [e1, e2], e4, q⟩⟩
        | _ => cases h
  | _ => cases h
theorem assoc_hit {i : Int} {d : D} {r : List (D × D)} : assocI i ((.int i, d) :: r) = some d := if_pos rfl
theorem assoc_miss {i j : Int} {d : D} {r : List (D × D)} (h : ¬ j = i) : assocI i ((.int j, d) :: r) = assocI i r := if_neg h
theorem rpK_get {K : PySem.W.Frag} {H : Hp} {O : Av} {mu : Nat → Addr} {n : Nat} {i : Int} : ∀ {kvs : List (Key × V)} {ds : List (D × D)}, RpK K H O mu n kvs ds → (∀ d, assocI i ds = some d → ∃ v, valV kvs (.inl i) = some v ∧ Rp K H O mu n v d) ∧ (assocI i ds = none → valV kvs (.inl i : Key) = none)
  | _, _, .nil => ⟨fun d h => (by cases h), fun _ => rfl⟩
  | _, _, .cons (k := k) (v := v) (d := d) (ds := ds) h r => by
    have ih := rpK_get (i := i) r
    cases k with
    | inl j =>
      by_cases e : j = i
      · subst e
        have e1 : assocI j ((dKey (.inl j), d) :: ds) = some d := assoc_hit
        rw [e1]
        refine ⟨fun d' h' => ?_, fun h' => by cases h'⟩
        cases h'
        exact ⟨v, valV_pos rfl, h⟩
      · have e1 : assocI i ((dKey (.inl j), d) :: ds) = assocI i ds := assoc_miss e
        rw [e1]
        refine ⟨fun d' h' => ?_, fun h' => (valV_neg fun z => e (Sum.inl.inj z)).trans (ih.2 h')⟩
        obtain ⟨v', e2, r2⟩ := ih.1 d' h'
        exact ⟨v', (valV_neg fun z => e (Sum.inl.inj z)).trans e2, r2⟩
    | inr x =>
      refine ⟨fun d' h' => ?_, fun h' => (valV_neg fun z => by cases z).trans (ih.2 h')⟩
      obtain ⟨v', e2, r2⟩ := ih.1 d' h'
      exact ⟨v', (valV_neg fun z => by cases z).trans e2, r2⟩
theorem ed_dget2 (hu : X.A.units + 1 < cLine) (ho : ED X T W o wo) (he : ED X T W e we) (hf : ED X T W f wf) (m : M2 X o "get" apos e f cpos) : ED X T W (.Call (.Attribute o "get" apos) [e, f] [] cpos) (wDGet wo we wf) := by
  refine ⟨pe_of (pe_dget2 hu ho.run he.run hf.run m) ?_⟩
  rintro σ H Q ⟨G, S, rho, xc, Phi, rfl, rel, ge, w, fin⟩
  refine ⟨G, S, rho, xc, _, rfl, rel, ge, w, fun d S1 x w1 s1 rel1 r1 => ?_⟩
  obtain ⟨w0, w1⟩ := w1
  cases h0 : dctOf S1.M d with
  | none => rw [h0] at w0; exact w0.elim
  | some kv0 =>
    obtain ⟨p, rfl, hp⟩ := r_dct rel1.ok r1 h0
    refine ⟨p, rfl, ?_, G, S1, rho, xc, _, rfl, rel1, ge, w1, fun k S2 y w2 s2 rel2 r2 => ?_⟩
    · rcases hp with ⟨us, q, _⟩ | ⟨us, _, q, _⟩
      · exact .inl ⟨us, .inl q⟩
      · exact .inr ⟨us, .inl q⟩
    refine ⟨G, S2, rho, xc, _, rfl, rel2, ge, w2, fun z S3 u w3 s3 rel3 r3 => ?_⟩
    cases h3 : dctOf S3.M d with
    | none => rw [h3] at w3; exact w3.elim
    | some kvs =>
      rw [h3] at w3
      cases k with
      | int i =>
        obtain ⟨w3, w4⟩ := w3
        obtain ⟨p', ep, hp'⟩ := r_dct rel3.ok ((s2.trans s3).rp r1) h3
        cases ep
        rcases hp' with ⟨us, q, rk⟩ | ⟨us, es, q, e2, _⟩
        · have g := rpK_get (i := i) rk
          refine ⟨valV us (.inl i), .inl ⟨us, .inl i, .inl q, rp_int r2, rfl⟩, ?_⟩
          cases ha : assocI i kvs with
          | none =>
            rw [ha] at w4
            rw [g.2 ha]
            exact fin z S3 u w4 ((s1.trans s2).trans s3) rel3 r3
          | some c =>
            rw [ha] at w4
            obtain ⟨v, e1, rv⟩ := g.1 c ha
            rw [e1]
            exact fin c S3 v w4 ((s1.trans s2).trans s3) rel3 rv
        · subst e2
          cases w3
      | _ => exact w3.elim
end

/-! ### sorted pairs -/
/-- sorted(xs), the pairs ps at xs: each way to put them that is sorted -/
def rSortedK (K : PySem.W.Frag) : List V → Hp → VK → Prop := fun vs H Q => ∃ (a : Addr) (xs : List V) (ps : List (Int × Int)), vs = [V.ref a] ∧ SqL K H a xs ∧ xs.length = ps.length ∧
  (∀ z ∈ xs.zip ps, ∃ t, z.1 = V.ref t ∧ SqT K H t [.int z.2.1, .int z.2.2]) ∧
  ∀ (zs : List (V × (Int × Int))) (p : Addr), zs.Perm (xs.zip ps) → (zs.map (·.2)).Pairwise (fun p q => SrtO.lexB q p = false) → H p = none → Q (.ref p) (upd H p (.lst (zs.map (·.1))))
open Classical in
/-- the pair at x -/
noncomputable def pairAt (zs : List (V × (Int × Int))) (x : V) : Int × Int := if h : ∃ p, (x, p) ∈ zs then choose h else (0, 0)
theorem pairAt_mem {zs : List (V × (Int × Int))} {x : V} {p : Int × Int} (h : (x, p) ∈ zs) : (x, pairAt zs x) ∈ zs := by
  unfold pairAt
  rw [dif_pos ⟨p, h⟩]
  exact Classical.choose_spec (p := fun p => (x, p) ∈ zs) ⟨p, h⟩
open PySem.Spec PyProof.Rows in
theorem cr_sortedK {X : Cx} : CallR X (.builtin "sorted") (rSortedK X.K) := by
  intro pins s σ H vs us Q I r h
  obtain ⟨a, xs, ps, ev, hs, hlen, hx, q⟩ := h
  subst ev
  obtain ⟨u, rfl, ru⟩ := vals1 r
  obtain rfl : u = Value.ref a := ru
  obtain ⟨its, rv, hl, hz⟩ := I.list hs
  have mem : ∀ x ∈ xs, ∃ p, (x, p) ∈ xs.zip ps := fun x m => by
    obtain ⟨i, hi, e⟩ := List.getElem_of_mem m
    refine ⟨ps[i]'(by omega), ?_⟩
    rw [← e]
    have : (xs.zip ps)[i]'(by rw [List.length_zip]; omega) ∈ xs.zip ps := List.getElem_mem _
    rwa [List.getElem_zip] at this
  have uniq : ∀ x p, (x, p) ∈ xs.zip ps → pairAt (xs.zip ps) x = p := fun x p m => by
    obtain ⟨t, e1, h1⟩ := hx _ m
    obtain ⟨t2, e2, h2⟩ := hx _ (pairAt_mem m)
    have e3 : t = t2 := by
      have : V.ref t = V.ref t2 := e1.symm.trans e2
      injection this
    subst e3
    have e4 := I.tuple_inj h1 h2
    injection e4 with e5 e6
    injection e6 with e7 _
    injection e5 with e8
    injection e7 with e9
    exact Prod.ext e8.symm e9.symm
  have zipk : xs.map (fun x => (x, pairAt (xs.zip ps) x)) = xs.zip ps := by
    apply List.ext_getElem
    · rw [List.length_map, List.length_zip]; omega
    · intro i h1 h2
      rw [List.getElem_map, List.getElem_zip]
      have hm : (xs.zip ps)[i] ∈ xs.zip ps := List.getElem_mem h2
      rw [List.getElem_zip] at hm
      rw [uniq _ _ hm]
  obtain ⟨e1, e2⟩ := refs_back rv fun x m => by
    obtain ⟨p, hp⟩ := mem x m
    obtain ⟨t, e, _⟩ := hx _ hp
    exact ⟨t, e⟩
  refine SrtO.sorted_pairsO (k := fun u => pairAt (xs.zip ps) (backV u)) hl.isList (by rw [← rv.length]; exact hz) (fun v hv => ?_) fun g d out h1 h2 kp hd hn => ?_
  · obtain ⟨t, rfl⟩ := e2 v hv
    obtain ⟨p, hp⟩ := mem (V.ref t) (by rw [e1]; exact List.mem_map.mpr ⟨_, hv, rfl⟩)
    obtain ⟨t', e, ht⟩ := hx _ hp
    cases e
    have ek : pairAt (xs.zip ps) (backV (Value.ref t)) = p := uniq _ _ hp
    refine ek ▸ ?_
    obtain ⟨its2, r2, pt, _⟩ := I.tuple ht
    have pt' : s.heap.IsTuple t its2.toArray := pt
    obtain ⟨o, ho, hc, n, hd⟩ := pt'
    obtain ⟨u1, u2, rfl, ⟨t1, rfl⟩, ⟨t2, rfl⟩⟩ := vals2 r2
    exact ⟨t, o, t1, t2, n, rfl, ho, hc, hd⟩
  · obtain ⟨n, hn⟩ := hn
    have back := vals_back fun u hu => e2 u (h2.perm.mem_iff.mp hu)
    have hb : (out.map backV).Perm xs := by
      have := h2.perm.map backV
      rw [← e1] at this
      exact this
    have fin := q ((out.map backV).map fun x => (x, pairAt (xs.zip ps) x)) d (by
      have := hb.map fun x => (x, pairAt (xs.zip ps) x)
      rw [zipk] at this
      exact this) (by
      rw [List.map_map, List.map_map, List.pairwise_map]
      exact h1) (I.hok.fresh hd)
    have em : ((out.map backV).map fun x => (x, pairAt (xs.zip ps) x)).map (·.1) = out.map backV := by
      rw [List.map_map]
      exact List.map_id _
    rw [em] at fin
    exact ⟨.ref d, _, I.laid (t' := s.toks) (o := .lst (out.map backV)) kp hd ⟨by rw [hb.length_eq]; exact hz, out, n, back, hn⟩, rfl, fin⟩
/-- the pairs of a list -/
def pairsD : List D → Option (List (Int × Int))
  | [] => some []
  | .tup [.int i, .int j] :: r => (pairsD r).map ((i, j) :: ·)
  | _ => none
def pD (p : Int × Int) : D := .tup [.int p.1, .int p.2]
theorem pairsD_map : ∀ ps : List (Int × Int), pairsD (ps.map pD) = some ps
  | [] => rfl
  | p :: ps => by show (pairsD (ps.map pD)).map ((p.1, p.2) :: ·) = _; rw [pairsD_map ps]; rfl
theorem pairsD_some : ∀ {ds : List D} {ps : List (Int × Int)}, pairsD ds = some ps → ds = ps.map pD
  | [], ps, h => by cases h; rfl
  | d :: r, ps, h => by
    unfold pairsD at h
    split at h
    · rename_i e; cases e
    · rename_i i j r' e
      cases e
      cases e2 : pairsD r with
      | none => rw [e2] at h; cases h
      | some qs =>
        rw [e2] at h
        cases h
        rw [pairsD_some e2]
        rfl
    · cases h
/-- sorted(xs): whatever list is a sorted rearrangement -/
def oSortedP : OpA := arg1 fun M a Psi => match lstOf M a with
  | some ds => match pairsD ds with
    | some ps => ∀ qs : List (Int × Int), qs.Perm ps → qs.Pairwise (fun p q => SrtO.lexB q p = false) → Psi (.lst (qs.map pD))
    | none => False
  | none => False
theorem rps_zip {K : PySem.W.Frag} {H : Hp} {O : Av} {mu : Nat → Addr} {n : Nat} : ∀ {xs : List V} {ps : List (Int × Int)}, Rps K H O mu n xs (ps.map pD) → ∀ z ∈ xs.zip ps, Rp K H O mu n z.1 (pD z.2)
  | _, [], .nil, z, h => by cases h
  | _, p :: ps, .cons h r, z, hz => by
    rw [List.zip_cons_cons] at hz
    rcases List.mem_cons.mp hz with e | hz
    · rw [e]; exact h
    · exact rps_zip r z hz
theorem rps_unzip {K : PySem.W.Frag} {H : Hp} {O : Av} {mu : Nat → Addr} {n : Nat} : ∀ {zs : List (V × (Int × Int))}, (∀ z ∈ zs, Rp K H O mu n z.1 (pD z.2)) → Rps K H O mu n (zs.map (·.1)) ((zs.map (·.2)).map pD)
  | [], _ => .nil
  | z :: zs, h => .cons (h z List.mem_cons_self) (rps_unzip fun y hy => h y (List.mem_cons_of_mem _ hy))
theorem zip_snd {α β : Type} : ∀ {xs : List α} {ys : List β}, xs.length = ys.length → (xs.zip ys).map (·.2) = ys
  | [], [], _ => rfl
  | _ :: xs, _ :: ys, h => by rw [List.zip_cons_cons, List.map_cons, zip_snd (by simpa using h)]
theorem od_sortedP {K : PySem.W.Frag} : OpDN K (rSortedK K) oSortedP := by
  intro O0 T S xs as Psi Q ok rs w fin
  obtain ⟨a, ea, w1⟩ := arg1_some w
  subst ea
  obtain ⟨x, rfl, ra⟩ := rs1 rs
  cases hs : lstOf S.M a with
  | none => rw [hs] at w1; exact w1.elim
  | some ds =>
    rw [hs] at w1
    dsimp only at w1
    cases hp : pairsD ds with
    | none => rw [hp] at w1; exact w1.elim
    | some ps =>
      rw [hp] at w1
      dsimp only at w1
      obtain ⟨p, vs, rfl, sq, rr, hlen⟩ := r_lst ok ra hs
      have e := pairsD_some hp
      subst e
      have el : vs.length = ps.length := by rw [rr.len, List.length_map]
      rw [List.length_map] at hlen
      refine ⟨p, vs, ps, rfl, sq, el, fun z hz => ?_, fun zs q pm srt hq => ?_⟩
      · obtain ⟨t, us, e1, st, r2, _⟩ := rp_tup (rps_zip rr z hz)
        have e2 : us = [.int z.2.1, .int z.2.2] := Rps.ints (ns := [z.2.1, z.2.2]) r2
        subst e2
        exact ⟨t, e1, st⟩
      · have pm2 : (zs.map (·.2)).Perm ps := by
          have := pm.map (·.2)
          rwa [zip_snd el] at this
        exact fin _ q _ (w1 _ pm2 srt) hq ⟨_, rfl, by rw [List.length_map, pm2.length_eq]; exact hlen, rps_unzip fun z hz => rps_zip rr z (pm.mem_iff.mp hz)⟩

/-! ### isinstance(x, (A, B)) -/
def tysD : List D → Option (List String)
  | [] => some []
  | .ty n :: r => (tysD r).map (n :: ·)
  | _ => none
def kitAnyB (t : String) : List String → Option Bool
  | [] => some false
  | n :: r => match kitB t n with
    | some true => some true
    | some false => kitAnyB t r
    | none => none
theorem kitAnyB_ok {K : PySem.W.Frag} {t : String} : ∀ {ns : List String} {b : Bool}, kitAnyB t ns = some b → PySem.W.kitAny K (.type t) (ns.map Value.type) = some b
  | [], b, h => h
  | n :: r, b, h => by
    unfold kitAnyB at h
    rw [List.map_cons]
    unfold PySem.W.kitAny
    cases e : kitB t n with
    | none => rw [e] at h; cases h
    | some c =>
      rw [e] at h
      rw [kit_ty e]
      cases c with
      | true => exact h
      | false => exact kitAnyB_ok h
theorem tysD_some {K : PySem.W.Frag} {H : Hp} {O : Av} {mu : Nat → Addr} {n : Nat} : ∀ {ds : List D} {ns : List String} {vs : List V}, tysD ds = some ns → Rps K H O mu n vs ds → vs = ns.map V.ty
  | [], ns, _, h, .nil => by cases h; rfl
  | d :: r, ns, _, h, .cons q rr => by
    unfold tysD at h
    split at h
    · rename_i e; cases e
    · rename_i m r' e
      cases e
      cases e2 : tysD r with
      | none => rw [e2] at h; cases h
      | some ms =>
        rw [e2] at h
        cases h
        cases q
        rw [tysD_some e2 rr]
        rfl
    · cases h
theorem paired_ty : ∀ ns : List String, Paired ClsV (ns.map V.ty) (ns.map Value.type)
  | [] => .nil
  | n :: ns => .cons (.ty n) (paired_ty ns)
theorem vals_ty : ∀ {ns : List String} {us : List Value}, Vals (ns.map V.ty) us → us = ns.map Value.type
  | [], _, .nil => rfl
  | n :: ns, _, .cons h r => by
    rw [vals_ty (ns := ns) r]
    exact congrArg (· :: _) h
def oIsiT : OpA := arg2 fun M a c Psi => match tyD M a, c with
  | some t, .tup ds => match tysD ds with
    | some ns => optB (kitAnyB t ns) Psi
    | none => False
  | _, _ => False
def rIsiA (K : PySem.W.Frag) : List V → Hp → VK → Prop := fun xs H Q => rIsiT K xs H Q ∨ rIsiK K xs H Q
theorem call_isiA {X : Cx} : CallR X (.builtin "isinstance") (rIsiA X.K) := by
  intro pins s σ H xs us Q I r h
  rcases h with h | h
  · exact call_isiT pins s σ H xs us Q I r h
  · exact call_isiK pins s σ H xs us Q I r h
theorem od_isiT {K : PySem.W.Frag} : OpDA K (rIsiA K) oIsiT := by
  intro O0 T S xs as Psi Q ok rs w fin
  obtain ⟨a, c, ea, w1⟩ := arg2_some w
  subst ea
  obtain ⟨x, y, rfl, ra, rb⟩ := rs2 rs
  cases ht : tyD S.M a with
  | none => rw [ht] at w1; exact w1.elim
  | some t =>
    rw [ht] at w1
    cases c with
    | tup ds =>
      dsimp only at w1
      cases hn : tysD ds with
      | none => rw [hn] at w1; exact w1.elim
      | some ns =>
        rw [hn] at w1
        dsimp only at w1
        cases hb : kitAnyB t ns with
        | none => rw [hb] at w1; exact w1.elim
        | some b =>
          rw [hb] at w1
          have q := fin _ S _ w1 rfl (Step.refl S) ok (.bl b)
          cases rb with
          | tup h _ rr =>
            have e := tysD_some hn rr
            subst e
            rcases h with ⟨_, h⟩ | ⟨o, its, n, h1, h2, h3, h4, h5⟩
            · exact .inl ⟨_, _, _, _, _, b, rfl, h, paired_ty ns, tyD_ok ok ra ht, kitAnyB_ok hb, q⟩
            · obtain ⟨oc, od, dt, sl⟩ := o
              simp only at h2 h3
              subst h2 h3
              have e5 := vals_ty h5
              have e6 : its = (ns.map Value.type).toArray := by rw [← e5]
              subst e6
              exact .inr ⟨_, _, od, ns.map Value.type, n, sl, _, b, rfl, h1, tyD_ok ok ra ht, kitAnyB_ok hb, q⟩
    | _ => exact w1.elim
end DL

namespace DL
open PySem L2 PyProof.Rows PySem.W
/-- a law of the script, with what the top says of its loose names -/
theorem walkX {l : PySem.W.OpenLaw} {n k : Nat} {q : Program} {loose : List Str} {XP : (Str → Option Value) → Heap → Prop} {YP : World → Heap → Prop} {d : DefRec} {K : Params → PySem.W.Frag} {x : Str} {sp : World → Sp}
    (hn : l.most = some n) (h2 : n ≤ sizeLine) (hdf : d.params.defaults = []) (hr : Room k callerA) (hY : ∀ (w : World) (h : Heap), YP w h → (K w.params).In h)
    (F : ∀ (w : World) (mg : Str → Option Value) (fa : Addr) (h : Heap), (K w.params).In h → h.Ns mainGlobals mg → XP mg h → mg d.name = some (.ref fa) →
      ∃ fd : FuncData, (∀ (s : Shared) (u : Value), BindsTo s fd ⟨[u], []⟩ [(x, u)]) ∧ ∀ base : Heap, (K w.params).In base → base.Ns mainGlobals mg → FnOk l.prog w (K w.params) mg base (L2.CX l.prog w) k fa fd [x] (sp w))
    (hsp : ∀ (w : World) (H : Hp) (a : Addr) (ns : List Int), ns.length ≤ n → Only H → SqL (K w.params) H a (ns.map V.int) → sp w [.ref a] H (fun v _ => v = .bl true) fun _ _ _ => False) :
    PySem.W.WalkO q loose XP YP l.row.toRowW d [] (fun f vs => PySem.call f vs) := by
  refine Att.attach_call hn hdf fun w s0 s1 mg mb fa o pm cd doc a vs ns G Y ho hd hcd hmg ha hi hl hg => ?_
  obtain ⟨fd, b1, b2⟩ := F w mg fa _ (hY w _ Y) G.T.g G.X hmg
  refine law_call (hY w _ Y) G.T.g G.T.b G.T.builtins G.T.nolimit hg ha hi (Nat.le_trans hl h2) hr b2 b1 (fun H hO hS => hsp w H a ns hl hO hS) fun H e s' h => ?_
  obtain ⟨_, _, _, _, _, _, _, _, _, _, _, _, z⟩ := h
  exact z.elim
theorem takesN {X : Cx} : Takes X W0 := fun _ _ x => by
  obtain ⟨_, _, _, _, _, _, _, _, _, _, _, _, _, _, _, _, z⟩ := x
  exact z.elim
end DL
namespace DL
open PySem L2
theorem ed_k {X : Cx} {T : TabT} {W : WX} {x : Str} {i : Int} {pos : Pos} (h : ∃ t, X.mg x = some (.int i t)) (hg : Gl X x) (hd : (x == ("__debug__" : Str)) = false := by decide) : ED X T W (.Name x pos) (wC (.int i)) := by
  obtain ⟨t, e⟩ := h
  exact ed_c (v := .int i) (pe_glob hg e ⟨t, rfl⟩ hd) fun _ _ _ _ _ => .int i
/-- return a new thing that may change -/
def wRetW (we : TDe) : TDs := fun xc F rho M => we xc rho M fun d M1 => F.rt (.loc M1.length) (M1 ++ [d])
theorem sd_retW {X : Cx} {T : TabT} {W : WX} {e : Expr} {we : TDe} {pos : Pos} (he : EN X T W e we) : SD X T W (.Return (some e) pos) (wRetW we) := by
  refine ⟨ps_of (ps_ret he.run) ?_⟩
  rintro Dn σ H ⟨G, S, rho, xc, F, rfl, rel, ge, w, ends⟩
  refine ⟨G, S, rho, xc, _, rfl, rel, ge, w, fun d S1 a o w1 s1 rel1 ha c => ?_⟩
  have s2 : Step S1 (S1.add a o d) := Step.add ha
  have rel2 : Rel X.K T G (S1.add a o d) rho σ := rel1.step' s2 (rel1.ok.add ha c)
  have em : (S1.add a o d).mu S1.M.length = a := if_pos rfl
  have lt : S1.M.length < (S1.add a o d).M.length := by
    show S1.M.length < (S1.M ++ [d]).length
    rw [List.length_append, List.length_singleton]
    exact Nat.lt_succ_self _
  have rr : R X.K G.O0 (S1.add a o d) (.ref a) (.loc S1.M.length) := by
    have q : R X.K G.O0 (S1.add a o d) (.ref ((S1.add a o d).mu S1.M.length)) (.loc S1.M.length) := .loc lt
    rw [em] at q
    exact q
  exact ends.rt (S1.add a o d) _ _ w1 rel2.ok rel2.step rr
end DL

/-! what each word asks, to be read off (simp) -/
namespace DL
open PySem L2
/-- no field of that name -/
def lkN (m : Str) (fs : List (Str × D)) : Prop := fs.lookup m = none
@[simp] theorem lkN_nil (m : Str) : lkN m [] = True := eq_true rfl
theorem lkN_cons {m x : Str} (h : (m == x) = false) (d : D) (r : List (Str × D)) : lkN m ((x, d) :: r) = lkN m r := by unfold lkN; rw [List.lookup_cons, h]
@[simp ↓] theorem s_wVar (i : Nat) (u0 : XC) (rho : Rho) (M : List D) (Phi : (D → List D → Prop)) : wVar i u0 rho M Phi = (match rho[i]? with
  | some (some d) => Phi d M
  | _ => False) := propext Iff.rfl
@[simp ↓] theorem s_wC (d : D) (u0 : XC) (u1 : Rho) (M : List D) (Phi : (D → List D → Prop)) : wC d u0 u1 M Phi = (Phi d M) := propext Iff.rfl
def k3_wBin (Phi : D → List D → Prop) (M2 : List D) : D → Prop := fun d => Phi d M2
@[simp ↓] theorem s_k3_wBin (Phi : D → List D → Prop) (M2 : List D) (d : D) : k3_wBin Phi M2 d = (Phi d M2) := propext Iff.rfl
def k2_wBin (f : Op2) (Phi : D → List D → Prop) (a : D) : D → List D → Prop := fun b M2 => f M2 a b (k3_wBin Phi M2)
@[simp ↓] theorem s_k2_wBin (f : Op2) (Phi : D → List D → Prop) (a : D) (b : D) (M2 : List D) : k2_wBin f Phi a b M2 = (f M2 a b (k3_wBin Phi M2)) := propext Iff.rfl
def k1_wBin (f : Op2) (wb : TDe) (xc : XC) (rho : Rho) (Phi : D → List D → Prop) : D → List D → Prop := fun a M1 => wb xc rho M1 (k2_wBin f Phi a)
@[simp ↓] theorem s_k1_wBin (f : Op2) (wb : TDe) (xc : XC) (rho : Rho) (Phi : D → List D → Prop) (a : D) (M1 : List D) : k1_wBin f wb xc rho Phi a M1 = (wb xc rho M1 (k2_wBin f Phi a)) := propext Iff.rfl
@[simp ↓] theorem s_wBin (f : Op2) (wa wb : TDe) (xc : XC) (rho : Rho) (M : List D) (Phi : (D → List D → Prop)) : wBin f wa wb xc rho M Phi = (wa xc rho M (k1_wBin f wb xc rho Phi)) := propext Iff.rfl
def k2_wUn (Phi : D → List D → Prop) (M1 : List D) : D → Prop := fun d => Phi d M1
@[simp ↓] theorem s_k2_wUn (Phi : D → List D → Prop) (M1 : List D) (d : D) : k2_wUn Phi M1 d = (Phi d M1) := propext Iff.rfl
def k1_wUn (f : Op1) (Phi : D → List D → Prop) : D → List D → Prop := fun a M1 => f M1 a (k2_wUn Phi M1)
@[simp ↓] theorem s_k1_wUn (f : Op1) (Phi : D → List D → Prop) (a : D) (M1 : List D) : k1_wUn f Phi a M1 = (f M1 a (k2_wUn Phi M1)) := propext Iff.rfl
@[simp ↓] theorem s_wUn (f : Op1) (wa : TDe) (xc : XC) (rho : Rho) (M : List D) (Phi : (D → List D → Prop)) : wUn f wa xc rho M Phi = (wa xc rho M (k1_wUn f Phi)) := propext Iff.rfl
def k1_wNot (Phi : Bool → List D → Prop) : Bool → List D → Prop := fun c M1 => Phi (!c) M1
@[simp ↓] theorem s_k1_wNot (Phi : Bool → List D → Prop) (c : Bool) (M1 : List D) : k1_wNot Phi c M1 = (Phi (!c) M1) := propext Iff.rfl
@[simp ↓] theorem s_wNot (t : TDt) (xc : XC) (rho : Rho) (M : List D) (Phi : (Bool → List D → Prop)) : wNot t xc rho M Phi = (t xc rho M (k1_wNot Phi)) := propext Iff.rfl
def k1_wNotV (Phi : D → List D → Prop) : D → List D → Prop := fun d M1 => isB (fun c => Phi (.bl (!c)) M1) d
@[simp ↓] theorem s_k1_wNotV (Phi : D → List D → Prop) (d : D) (M1 : List D) : k1_wNotV Phi d M1 = (isB (fun c => Phi (.bl (!c)) M1) d) := propext Iff.rfl
@[simp ↓] theorem s_wNotV (wa : TDe) (xc : XC) (rho : Rho) (M : List D) (Phi : (D → List D → Prop)) : wNotV wa xc rho M Phi = (wa xc rho M (k1_wNotV Phi)) := propext Iff.rfl
def k3_wChain (g : Op2) (wc : TDe) (xc : XC) (rho : Rho) (Phi : D → List D → Prop) (b : D) (M2 : List D) : D → Prop := fun d => isB (fun k => if k = true then wc xc rho M2 fun c M3 => g M3 b c fun e => Phi e M3 else Phi (.bl false) M2) d
@[simp ↓] theorem s_k3_wChain (g : Op2) (wc : TDe) (xc : XC) (rho : Rho) (Phi : D → List D → Prop) (b : D) (M2 : List D) (d : D) : k3_wChain g wc xc rho Phi b M2 d = (isB (fun k => if k = true then wc xc rho M2 fun c M3 => g M3 b c fun e => Phi e M3 else Phi (.bl false) M2) d) := propext Iff.rfl
def k2_wChain (f : Op2) (g : Op2) (wc : TDe) (xc : XC) (rho : Rho) (Phi : D → List D → Prop) (a : D) : D → List D → Prop := fun b M2 => f M2 a b (k3_wChain g wc xc rho Phi b M2)
@[simp ↓] theorem s_k2_wChain (f : Op2) (g : Op2) (wc : TDe) (xc : XC) (rho : Rho) (Phi : D → List D → Prop) (a : D) (b : D) (M2 : List D) : k2_wChain f g wc xc rho Phi a b M2 = (f M2 a b (k3_wChain g wc xc rho Phi b M2)) := propext Iff.rfl
def k1_wChain (f : Op2) (g : Op2) (wb : TDe) (wc : TDe) (xc : XC) (rho : Rho) (Phi : D → List D → Prop) : D → List D → Prop := fun a M1 => wb xc rho M1 (k2_wChain f g wc xc rho Phi a)
@[simp ↓] theorem s_k1_wChain (f : Op2) (g : Op2) (wb : TDe) (wc : TDe) (xc : XC) (rho : Rho) (Phi : D → List D → Prop) (a : D) (M1 : List D) : k1_wChain f g wb wc xc rho Phi a M1 = (wb xc rho M1 (k2_wChain f g wc xc rho Phi a)) := propext Iff.rfl
@[simp ↓] theorem s_wChain (f g : Op2) (wa wb wc : TDe) (xc : XC) (rho : Rho) (M : List D) (Phi : (D → List D → Prop)) : wChain f g wa wb wc xc rho M Phi = (wa xc rho M (k1_wChain f g wb wc xc rho Phi)) := propext Iff.rfl
@[simp ↓] theorem s_wNil (u0 : XC) (u1 : Rho) (M : List D) (Phi : (List D → List D → Prop)) : wNil  u0 u1 M Phi = (Phi [] M) := propext Iff.rfl
def k2_wCons (Phi : List D → List D → Prop) (d : D) : List D → List D → Prop := fun ds M2 => Phi (d :: ds) M2
@[simp ↓] theorem s_k2_wCons (Phi : List D → List D → Prop) (d : D) (ds : List D) (M2 : List D) : k2_wCons Phi d ds M2 = (Phi (d :: ds) M2) := propext Iff.rfl
def k1_wCons (wr : TDa) (xc : XC) (rho : Rho) (Phi : List D → List D → Prop) : D → List D → Prop := fun d M1 => wr xc rho M1 (k2_wCons Phi d)
@[simp ↓] theorem s_k1_wCons (wr : TDa) (xc : XC) (rho : Rho) (Phi : List D → List D → Prop) (d : D) (M1 : List D) : k1_wCons wr xc rho Phi d M1 = (wr xc rho M1 (k2_wCons Phi d)) := propext Iff.rfl
@[simp ↓] theorem s_wCons (wa : TDe) (wr : TDa) (xc : XC) (rho : Rho) (M : List D) (Phi : (List D → List D → Prop)) : wCons wa wr xc rho M Phi = (wa xc rho M (k1_wCons wr xc rho Phi)) := propext Iff.rfl
def k1_wTup (Phi : D → List D → Prop) : List D → List D → Prop := fun ds M1 => Phi (.tup ds) M1
@[simp ↓] theorem s_k1_wTup (Phi : D → List D → Prop) (ds : List D) (M1 : List D) : k1_wTup Phi ds M1 = (Phi (.tup ds) M1) := propext Iff.rfl
@[simp ↓] theorem s_wTup (w : TDa) (xc : XC) (rho : Rho) (M : List D) (Phi : (D → List D → Prop)) : wTup w xc rho M Phi = (w xc rho M (k1_wTup Phi)) := propext Iff.rfl
def k1_wLst (Phi : D → List D → Prop) : List D → List D → Prop := fun ds M1 => Phi (.lst ds) M1
@[simp ↓] theorem s_k1_wLst (Phi : D → List D → Prop) (ds : List D) (M1 : List D) : k1_wLst Phi ds M1 = (Phi (.lst ds) M1) := propext Iff.rfl
@[simp ↓] theorem s_wLst (w : TDa) (xc : XC) (rho : Rho) (M : List D) (Phi : (D → List D → Prop)) : wLst w xc rho M Phi = (w xc rho M (k1_wLst Phi)) := propext Iff.rfl
def k2_wCB (Phi : D → List D → Prop) (M1 : List D) : D → Prop := fun d => Phi d M1
@[simp ↓] theorem s_k2_wCB (Phi : D → List D → Prop) (M1 : List D) (d : D) : k2_wCB Phi M1 d = (Phi d M1) := propext Iff.rfl
def k1_wCB (f : OpA) (Phi : D → List D → Prop) : List D → List D → Prop := fun ds M1 => f M1 ds (k2_wCB Phi M1)
@[simp ↓] theorem s_k1_wCB (f : OpA) (Phi : D → List D → Prop) (ds : List D) (M1 : List D) : k1_wCB f Phi ds M1 = (f M1 ds (k2_wCB Phi M1)) := propext Iff.rfl
@[simp ↓] theorem s_wCB (f : OpA) (w : TDa) (xc : XC) (rho : Rho) (M : List D) (Phi : (D → List D → Prop)) : wCB f w xc rho M Phi = (w xc rho M (k1_wCB f Phi)) := propext Iff.rfl
def k1_wFld (cs : List Addr) (f : Str) (Phi : D → List D → Prop) : D → List D → Prop := fun d M1 => match insOf M1 d with
  | some (C, fs) => C ∈ cs ∧ match fs.lookup f with
    | some v => Phi v M1
    | none => False
  | none => False
@[simp ↓] theorem s_k1_wFld (cs : List Addr) (f : Str) (Phi : D → List D → Prop) (d : D) (M1 : List D) : k1_wFld cs f Phi d M1 = (match insOf M1 d with
  | some (C, fs) => C ∈ cs ∧ match fs.lookup f with
    | some v => Phi v M1
    | none => False
  | none => False) := propext Iff.rfl
@[simp ↓] theorem s_wFld (cs : List Addr) (f : Str) (wa : TDe) (xc : XC) (rho : Rho) (M : List D) (Phi : (D → List D → Prop)) : wFld cs f wa xc rho M Phi = (wa xc rho M (k1_wFld cs f Phi)) := propext Iff.rfl
@[simp ↓] theorem s_wONone (u0 : XC) (u1 : Rho) (M : List D) (Phi : (Option Int → List D → Prop)) : wONone  u0 u1 M Phi = (Phi none M) := propext Iff.rfl
def k1_wOSome (Phi : Option Int → List D → Prop) : D → List D → Prop := fun d M1 => isI (fun i => Phi (some i) M1) d
@[simp ↓] theorem s_k1_wOSome (Phi : Option Int → List D → Prop) (d : D) (M1 : List D) : k1_wOSome Phi d M1 = (isI (fun i => Phi (some i) M1) d) := propext Iff.rfl
@[simp ↓] theorem s_wOSome (w : TDe) (xc : XC) (rho : Rho) (M : List D) (Phi : (Option Int → List D → Prop)) : wOSome w xc rho M Phi = (w xc rho M (k1_wOSome Phi)) := propext Iff.rfl
def k3_wSl (f : OpS) (Phi : D → List D → Prop) (d : D) (lo : Option Int) : Option Int → List D → Prop := fun hi M3 => f M3 d lo hi fun d' => Phi d' M3
@[simp ↓] theorem s_k3_wSl (f : OpS) (Phi : D → List D → Prop) (d : D) (lo : Option Int) (hi : Option Int) (M3 : List D) : k3_wSl f Phi d lo hi M3 = (f M3 d lo hi fun d' => Phi d' M3) := propext Iff.rfl
def k2_wSl (f : OpS) (wh : TDo) (xc : XC) (rho : Rho) (Phi : D → List D → Prop) (d : D) : Option Int → List D → Prop := fun lo M2 => wh xc rho M2 (k3_wSl f Phi d lo)
@[simp ↓] theorem s_k2_wSl (f : OpS) (wh : TDo) (xc : XC) (rho : Rho) (Phi : D → List D → Prop) (d : D) (lo : Option Int) (M2 : List D) : k2_wSl f wh xc rho Phi d lo M2 = (wh xc rho M2 (k3_wSl f Phi d lo)) := propext Iff.rfl
def k1_wSl (f : OpS) (wl : TDo) (wh : TDo) (xc : XC) (rho : Rho) (Phi : D → List D → Prop) : D → List D → Prop := fun d M1 => wl xc rho M1 (k2_wSl f wh xc rho Phi d)
@[simp ↓] theorem s_k1_wSl (f : OpS) (wl : TDo) (wh : TDo) (xc : XC) (rho : Rho) (Phi : D → List D → Prop) (d : D) (M1 : List D) : k1_wSl f wl wh xc rho Phi d M1 = (wl xc rho M1 (k2_wSl f wh xc rho Phi d)) := propext Iff.rfl
@[simp ↓] theorem s_wSl (f : OpS) (wa : TDe) (wl wh : TDo) (xc : XC) (rho : Rho) (M : List D) (Phi : (D → List D → Prop)) : wSl f wa wl wh xc rho M Phi = (wa xc rho M (k1_wSl f wl wh xc rho Phi)) := propext Iff.rfl
@[simp ↓] theorem s_wSkip (u0 : XC) (F : Fin) (rho : Rho) (M : List D) : wSkip  u0 F rho M = (F.nx rho M) := propext Iff.rfl
@[simp ↓] theorem s_wBreak (u0 : XC) (F : Fin) (rho : Rho) (M : List D) : wBreak  u0 F rho M = (F.bk rho M) := propext Iff.rfl
@[simp ↓] theorem s_wCont (u0 : XC) (F : Fin) (rho : Rho) (M : List D) : wCont  u0 F rho M = (F.ct rho M) := propext Iff.rfl
@[simp ↓] theorem s_wRetN (u0 : XC) (F : Fin) (u2 : Rho) (M : List D) : wRetN  u0 F u2 M = (F.rt .non M) := propext Iff.rfl
@[simp ↓] theorem s_gN (i : Nat) (d : D) (rho : Rho) (M : List D) (Phi : (Rho → List D → Prop)) : gN i d rho M Phi = (Phi (rho.set i (some d)) M) := propext Iff.rfl
@[simp ↓] theorem s_gsN (ds : (List D)) (rho : Rho) (M : List D) (Phi : (Rho → List D → Prop)) : gsN  ds rho M Phi = (ds = [] ∧ Phi rho M) := propext Iff.rfl
@[simp ↓] theorem s_gsC (g : TDg) (gs : List D → Rho → List D → (Rho → List D → Prop) → Prop) (ds : (List D)) (rho : Rho) (M : List D) (Phi : (Rho → List D → Prop)) : gsC g gs ds rho M Phi = (match ds with
  | [] => False
  | d :: r => g d rho M fun rho1 M1 => gs r rho1 M1 Phi) := propext Iff.rfl
@[simp ↓] theorem s_gT (n : Nat) (gs : List D → Rho → List D → (Rho → List D → Prop) → Prop) (d : D) (rho : Rho) (M : List D) (Phi : (Rho → List D → Prop)) : gT n gs d rho M Phi = (match d with
  | .tup ds => ds.length = n ∧ gs ds rho M Phi
  | _ => False) := propext Iff.rfl
@[simp ↓] theorem s_oNeg (u0 : List D) (a : D) (Psi : (D → Prop)) : oNeg  u0 a Psi = (isI (fun i => Psi (.int (-i))) a) := propext Iff.rfl
@[simp ↓] theorem s_oIx (M : List D) (a : D) (b : D) (Psi : (D → Prop)) : oIx  M a b Psi = (isI (fun i => match seqOf M a with
  | some ds => optP (atI ds i) Psi
  | none => match a with
    | .str z => z.length ≤ sizeLine ∧ ∃ c, atI z.cps.toList i = some c ∧ Psi (.str ⟨#[c]⟩)
    | _ => False) b) := propext Iff.rfl
@[simp ↓] theorem s_oSl (M : List D) (a : D) (lo : (Option Int)) (hi : (Option Int)) (Psi : (D → Prop)) : oSl  M a lo hi Psi = (match tupO a with
  | some ds => Psi (.tup (cutD ds lo hi))
  | none => match lstOf M a with
    | some ds => Psi (.lst (cutD ds lo hi))
    | none => False) := propext Iff.rfl
@[simp ↓] theorem s_arg1 (f : List D → D → (D → Prop) → Prop) (M : List D) (as : List D) (Psi : (D → Prop)) : arg1 f M as Psi = (match as with
  | [a] => f M a Psi
  | _ => False) := propext Iff.rfl
@[simp ↓] theorem s_arg2 (f : List D → D → D → (D → Prop) → Prop) (M : List D) (as : List D) (Psi : (D → Prop)) : arg2 f M as Psi = (match as with
  | [a, b] => f M a b Psi
  | _ => False) := propext Iff.rfl
@[simp ↓] theorem s_oLen (M : List D) (a : D) (Psi : (D → Prop)) : oLen  M [a] Psi = (match seqOf M a with
  | some ds => ds.length ≤ sizeLine → Psi (.int ds.length)
  | none => match a with
    | .str z => z.length ≤ sizeLine ∧ Psi (.int z.length)
    | _ => False) := propext Iff.rfl
@[simp ↓] theorem s_oSum (M : List D) (a : D) (Psi : (D → Prop)) : oSum  M [a] Psi = (lstI M a fun ns => Psi (.int ns.sum)) := propext Iff.rfl
@[simp ↓] theorem s_oAll (M : List D) (a : D) (Psi : (D → Prop)) : oAll  M [a] Psi = (lstB M a fun ns => Psi (.bl (ns.all id))) := propext Iff.rfl
@[simp ↓] theorem s_oAnyB (M : List D) (a : D) (Psi : (D → Prop)) : oAnyB  M [a] Psi = (lstB M a fun ns => Psi (.bl (ns.any id))) := propext Iff.rfl
@[simp ↓] theorem s_oMax1 (M : List D) (a : D) (Psi : (D → Prop)) : oMax1  M [a] Psi = (lstI M a fun ns => 0 < ns.length ∧ ∀ m, m ∈ ns → (∀ y, y ∈ ns → y ≤ m) → Psi (.int m)) := propext Iff.rfl
@[simp ↓] theorem s_oMin1 (M : List D) (a : D) (Psi : (D → Prop)) : oMin1  M [a] Psi = (lstI M a fun ns => 0 < ns.length ∧ ∀ m, m ∈ ns → (∀ y, y ∈ ns → m ≤ y) → Psi (.int m)) := propext Iff.rfl
@[simp ↓] theorem s_oAbs (u0 : List D) (a : D) (Psi : (D → Prop)) : oAbs  u0 [a] Psi = (isI (fun i => Psi (.int (if i < 0 then -i else i))) a) := propext Iff.rfl
@[simp ↓] theorem s_oInt (u0 : List D) (a : D) (Psi : (D → Prop)) : oInt  u0 [a] Psi = (isI (fun i => Psi (.int i)) a) := propext Iff.rfl
@[simp ↓] theorem s_oTuple (M : List D) (a : D) (Psi : (D → Prop)) : oTuple  M [a] Psi = (match seqO M a with
  | some ds => Psi (.tup ds)
  | none => False) := propext Iff.rfl
@[simp ↓] theorem s_oList (M : List D) (a : D) (Psi : (D → Prop)) : oList  M [a] Psi = (match seqOf M a with
  | some ds => Psi (.lst ds)
  | none => False) := propext Iff.rfl
@[simp ↓] theorem s_oSorted (M : List D) (a : D) (Psi : (D → Prop)) : oSorted  M [a] Psi = (lstI M a fun ns => ∀ ns' : List Int, ns'.Perm ns → ns'.Pairwise (· ≤ ·) → Psi (.lst (ns'.map D.int))) := propext Iff.rfl
def k1_wSeqI (M : List D) (Phi : List D → (List D → Prop) → List D → Prop) : D → List D → Prop := fun d M1 => match seqOf M1 d with
  | some ds => ds.length ≤ sizeLine → Phi ds (fun M' => seqOf M' d = some ds) M1
  | none => False
@[simp ↓] theorem s_k1_wSeqI (M : List D) (Phi : List D → (List D → Prop) → List D → Prop) (d : D) (M1 : List D) : k1_wSeqI M Phi d M1 = (match seqOf M1 d with
  | some ds => ds.length ≤ sizeLine → Phi ds (fun M' => seqOf M' d = some ds) M1
  | none => False) := propext Iff.rfl
@[simp ↓] theorem s_wSeqI (we : TDe) (xc : XC) (rho : Rho) (M : List D) (Phi : (List D → (List D → Prop) → List D → Prop)) : wSeqI we xc rho M Phi = (we xc rho M (k1_wSeqI M Phi)) := propext Iff.rfl
def k1_wRng1 (Phi : List D → (List D → Prop) → List D → Prop) : List D → List D → Prop := fun ds M1 => match ds with
  | [.int j] => (-(2 ^ 62) ≤ j ∧ j < 2 ^ 62) ∧ Phi (rngD 0 j.toNat) (fun _ => True) M1
  | _ => False
@[simp ↓] theorem s_k1_wRng1 (Phi : List D → (List D → Prop) → List D → Prop) (ds : List D) (M1 : List D) : k1_wRng1 Phi ds M1 = (match ds with
  | [.int j] => (-(2 ^ 62) ≤ j ∧ j < 2 ^ 62) ∧ Phi (rngD 0 j.toNat) (fun _ => True) M1
  | _ => False) := propext Iff.rfl
@[simp ↓] theorem s_wRng1 (wa : TDa) (xc : XC) (rho : Rho) (M : List D) (Phi : (List D → (List D → Prop) → List D → Prop)) : wRng1 wa xc rho M Phi = (wa xc rho M (k1_wRng1 Phi)) := propext Iff.rfl
def k1_wRng2 (Phi : List D → (List D → Prop) → List D → Prop) : List D → List D → Prop := fun ds M1 => match ds with
  | [.int i, .int j] => (-(2 ^ 62) ≤ i ∧ i < 2 ^ 62 ∧ -(2 ^ 62) ≤ j ∧ j < 2 ^ 62) ∧ Phi (rngD i (j - i).toNat) (fun _ => True) M1
  | _ => False
@[simp ↓] theorem s_k1_wRng2 (Phi : List D → (List D → Prop) → List D → Prop) (ds : List D) (M1 : List D) : k1_wRng2 Phi ds M1 = (match ds with
  | [.int i, .int j] => (-(2 ^ 62) ≤ i ∧ i < 2 ^ 62 ∧ -(2 ^ 62) ≤ j ∧ j < 2 ^ 62) ∧ Phi (rngD i (j - i).toNat) (fun _ => True) M1
  | _ => False) := propext Iff.rfl
@[simp ↓] theorem s_wRng2 (wa : TDa) (xc : XC) (rho : Rho) (M : List D) (Phi : (List D → (List D → Prop) → List D → Prop)) : wRng2 wa xc rho M Phi = (wa xc rho M (k1_wRng2 Phi)) := propext Iff.rfl
def k1_wFor (g : TDg) (wb : TDs) (xc : XC) (F : Fin) (rho : Rho) : List D → (List D → Prop) → List D → Prop := fun items gd M1 => forGo g wb gd xc F items rho M1
@[simp ↓] theorem s_k1_wFor (g : TDg) (wb : TDs) (xc : XC) (F : Fin) (rho : Rho) (items : List D) (gd : List D → Prop) (M1 : List D) : k1_wFor g wb xc F rho items gd M1 = (forGo g wb gd xc F items rho M1) := propext Iff.rfl
@[simp ↓] theorem s_wFor (wi : TDi) (g : TDg) (wb : TDs) (xc : XC) (F : Fin) (rho : Rho) (M : List D) : wFor wi g wb xc F rho M = (wi xc rho M (k1_wFor g wb xc F rho)) := propext Iff.rfl
def k1_wLc (g : TDg) (wt : TDt) (we : TDe) (vs : List Nat) (rho : Rho) (Phi : D → List D → Prop) : List D → (List D → Prop) → List D → Prop := fun items gd M1 => items.length ≤ sizeLine ∧ lcGo g wt we gd (wipeD rho vs) Phi items [] M1
@[simp ↓] theorem s_k1_wLc (g : TDg) (wt : TDt) (we : TDe) (vs : List Nat) (rho : Rho) (Phi : D → List D → Prop) (items : List D) (gd : List D → Prop) (M1 : List D) : k1_wLc g wt we vs rho Phi items gd M1 = (items.length ≤ sizeLine ∧ lcGo g wt we gd (wipeD rho vs) Phi items [] M1) := propext Iff.rfl
@[simp ↓] theorem s_wLc (wi : TDi) (g : TDg) (wt : TDt) (we : TDe) (vs : List Nat) (xc : XC) (rho : Rho) (M : List D) (Phi : (D → List D → Prop)) : wLc wi g wt we vs xc rho M Phi = (wi xc rho M (k1_wLc g wt we vs rho Phi)) := propext Iff.rfl
@[simp ↓] theorem s_wYes (u0 : XC) (u1 : Rho) (M : List D) (Phi : (Bool → List D → Prop)) : wYes  u0 u1 M Phi = (Phi true M) := propext Iff.rfl
def k1_wCal (c : TDc) (xc : XC) (rho : Rho) (Phi : D → List D → Prop) : List D → List D → Prop := fun ds M1 => c xc rho ds M1 Phi
@[simp ↓] theorem s_k1_wCal (c : TDc) (xc : XC) (rho : Rho) (Phi : D → List D → Prop) (ds : List D) (M1 : List D) : k1_wCal c xc rho Phi ds M1 = (c xc rho ds M1 Phi) := propext Iff.rfl
@[simp ↓] theorem s_wCal (c : TDc) (wa : TDa) (xc : XC) (rho : Rho) (M : List D) (Phi : (D → List D → Prop)) : wCal c wa xc rho M Phi = (wa xc rho M (k1_wCal c xc rho Phi)) := propext Iff.rfl
def k1_wSelf (C : Addr) (m : Str) (wa : TDa) (xc : XC) (rho : Rho) (Phi : List D → List D → Prop) : D → List D → Prop := fun d M1 => (match insOf M1 d with
  | some (C', fs) => C' = C ∧ lkN m fs
  | none => False) ∧ wa xc rho M1 fun ds M2 => Phi (d :: ds) M2
@[simp ↓] theorem s_k1_wSelf (C : Addr) (m : Str) (wa : TDa) (xc : XC) (rho : Rho) (Phi : List D → List D → Prop) (d : D) (M1 : List D) : k1_wSelf C m wa xc rho Phi d M1 = ((match insOf M1 d with
  | some (C', fs) => C' = C ∧ lkN m fs
  | none => False) ∧ wa xc rho M1 fun ds M2 => Phi (d :: ds) M2) := propext Iff.rfl
@[simp ↓] theorem s_wSelf (C : Addr) (m : Str) (wo : TDe) (wa : TDa) (xc : XC) (rho : Rho) (M : List D) (Phi : (List D → List D → Prop)) : wSelf C m wo wa xc rho M Phi = (wo xc rho M (k1_wSelf C m wa xc rho Phi)) := propext Iff.rfl
def k2_wMake (Phi : D → List D → Prop) (M1 : List D) : D → List D → Prop := fun d M2 => d = .non ∧ M1.length < M2.length ∧ Phi (.loc M1.length) M2
@[simp ↓] theorem s_k2_wMake (Phi : D → List D → Prop) (M1 : List D) (d : D) (M2 : List D) : k2_wMake Phi M1 d M2 = (d = .non ∧ M1.length < M2.length ∧ Phi (.loc M1.length) M2) := propext Iff.rfl
def k1_wMake (C : Addr) (c : TDc) (xc : XC) (rho : Rho) (Phi : D → List D → Prop) : List D → List D → Prop := fun ds M1 => c xc rho (.loc M1.length :: ds) (M1 ++ [.ins C []]) (k2_wMake Phi M1)
@[simp ↓] theorem s_k1_wMake (C : Addr) (c : TDc) (xc : XC) (rho : Rho) (Phi : D → List D → Prop) (ds : List D) (M1 : List D) : k1_wMake C c xc rho Phi ds M1 = (c xc rho (.loc M1.length :: ds) (M1 ++ [.ins C []]) (k2_wMake Phi M1)) := propext Iff.rfl
@[simp ↓] theorem s_wMake (C : Addr) (c : TDc) (wa : TDa) (xc : XC) (rho : Rho) (M : List D) (Phi : (D → List D → Prop)) : wMake C c wa xc rho M Phi = (wa xc rho M (k1_wMake C c xc rho Phi)) := propext Iff.rfl
def k2_wMakeI (Phi : D → List D → Prop) (M1 : List D) : D → List D → Prop := fun d M2 => d = .non ∧ M1.length ≤ M2.length ∧ ltL M1.length (M2.take M1.length) = true ∧ match M2[M1.length]? with
  | some i => i.lt M1.length = true ∧ Phi i (M2.take M1.length)
  | none => False
@[simp ↓] theorem s_k2_wMakeI (Phi : D → List D → Prop) (M1 : List D) (d : D) (M2 : List D) : k2_wMakeI Phi M1 d M2 = (d = .non ∧ M1.length ≤ M2.length ∧ ltL M1.length (M2.take M1.length) = true ∧ match M2[M1.length]? with
  | some i => i.lt M1.length = true ∧ Phi i (M2.take M1.length)
  | none => False) := propext Iff.rfl
def k1_wMakeI (C : Addr) (c : TDc) (xc : XC) (rho : Rho) (Phi : D → List D → Prop) : List D → List D → Prop := fun ds M1 => c xc rho (.loc M1.length :: ds) (M1 ++ [.ins C []]) (k2_wMakeI Phi M1)
@[simp ↓] theorem s_k1_wMakeI (C : Addr) (c : TDc) (xc : XC) (rho : Rho) (Phi : D → List D → Prop) (ds : List D) (M1 : List D) : k1_wMakeI C c xc rho Phi ds M1 = (c xc rho (.loc M1.length :: ds) (M1 ++ [.ins C []]) (k2_wMakeI Phi M1)) := propext Iff.rfl
@[simp ↓] theorem s_wMakeI (C : Addr) (c : TDc) (wa : TDa) (xc : XC) (rho : Rho) (M : List D) (Phi : (D → List D → Prop)) : wMakeI C c wa xc rho M Phi = (wa xc rho M (k1_wMakeI C c xc rho Phi)) := propext Iff.rfl
def k1_wApp (we : TDe) (xc : XC) (rho : Rho) (Phi : D → List D → Prop) : D → List D → Prop := fun d M1 => (match lstOf M1 d with | some _ => True | none => False) ∧ we xc rho M1 fun y M2 => atL M2 d fun k ds => ds.length < sizeLine ∧ Phi .non (M2.set k (.lst (ds ++ [y])))
@[simp ↓] theorem s_k1_wApp (we : TDe) (xc : XC) (rho : Rho) (Phi : D → List D → Prop) (d : D) (M1 : List D) : k1_wApp we xc rho Phi d M1 = ((match lstOf M1 d with | some _ => True | none => False) ∧ we xc rho M1 fun y M2 => atL M2 d fun k ds => ds.length < sizeLine ∧ Phi .non (M2.set k (.lst (ds ++ [y])))) := propext Iff.rfl
@[simp ↓] theorem s_wApp (wo we : TDe) (xc : XC) (rho : Rho) (M : List D) (Phi : (D → List D → Prop)) : wApp wo we xc rho M Phi = (wo xc rho M (k1_wApp we xc rho Phi)) := propext Iff.rfl
def k1_wPop (wi : TDe) (xc : XC) (rho : Rho) (Phi : D → List D → Prop) : D → List D → Prop := fun d M1 => (match lstOf M1 d with | some _ => True | none => False) ∧ wi xc rho M1 fun y M2 => atL M2 d fun k ds => isI (fun i => (-(2 ^ 63) ≤ i ∧ i < 2 ^ 63) ∧ match seqIndex? i ds.length with
  | some j => match ds[j]? with
    | some c => Phi c (M2.set k (.lst (ds.eraseIdx j)))
    | none => False
  | none => False) y
@[simp ↓] theorem s_k1_wPop (wi : TDe) (xc : XC) (rho : Rho) (Phi : D → List D → Prop) (d : D) (M1 : List D) : k1_wPop wi xc rho Phi d M1 = ((match lstOf M1 d with | some _ => True | none => False) ∧ wi xc rho M1 fun y M2 => atL M2 d fun k ds => isI (fun i => (-(2 ^ 63) ≤ i ∧ i < 2 ^ 63) ∧ match seqIndex? i ds.length with
  | some j => match ds[j]? with
    | some c => Phi c (M2.set k (.lst (ds.eraseIdx j)))
    | none => False
  | none => False) y) := propext Iff.rfl
@[simp ↓] theorem s_wPop (wo wi : TDe) (xc : XC) (rho : Rho) (M : List D) (Phi : (D → List D → Prop)) : wPop wo wi xc rho M Phi = (wo xc rho M (k1_wPop wi xc rho Phi)) := propext Iff.rfl
def k3_wSetIx (F : Fin) (rho : Rho) (v : D) (d : D) : D → List D → Prop := fun y M3 => atL M3 d fun k ds => isI (fun i => match ixN ds.length i with
  | some j => F.nx rho (M3.set k (.lst (ds.set j v)))
  | none => False) y
@[simp ↓] theorem s_k3_wSetIx (F : Fin) (rho : Rho) (v : D) (d : D) (y : D) (M3 : List D) : k3_wSetIx F rho v d y M3 = (atL M3 d fun k ds => isI (fun i => match ixN ds.length i with
  | some j => F.nx rho (M3.set k (.lst (ds.set j v)))
  | none => False) y) := propext Iff.rfl
def k2_wSetIx (wi : TDe) (xc : XC) (F : Fin) (rho : Rho) (v : D) : D → List D → Prop := fun d M2 => wi xc rho M2 (k3_wSetIx F rho v d)
@[simp ↓] theorem s_k2_wSetIx (wi : TDe) (xc : XC) (F : Fin) (rho : Rho) (v : D) (d : D) (M2 : List D) : k2_wSetIx wi xc F rho v d M2 = (wi xc rho M2 (k3_wSetIx F rho v d)) := propext Iff.rfl
def k1_wSetIx (wo : TDe) (wi : TDe) (xc : XC) (F : Fin) (rho : Rho) : D → List D → Prop := fun v M1 => wo xc rho M1 (k2_wSetIx wi xc F rho v)
@[simp ↓] theorem s_k1_wSetIx (wo : TDe) (wi : TDe) (xc : XC) (F : Fin) (rho : Rho) (v : D) (M1 : List D) : k1_wSetIx wo wi xc F rho v M1 = (wo xc rho M1 (k2_wSetIx wi xc F rho v)) := propext Iff.rfl
@[simp ↓] theorem s_wSetIx (wo wi we : TDe) (xc : XC) (F : Fin) (rho : Rho) (M : List D) : wSetIx wo wi we xc F rho M = (we xc rho M (k1_wSetIx wo wi xc F rho)) := propext Iff.rfl
def k2_wFldSet (cs : List Addr) (f : Str) (F : Fin) (rho : Rho) (v : D) : D → List D → Prop := fun d M2 => match d with
  | .loc k => match M2[k]? with
    | some (.ins C fs) => C ∈ cs ∧ fs.length < 1000 ∧ F.nx rho (M2.set k (.ins C (putD2 f v fs)))
    | _ => False
  | _ => False
@[simp ↓] theorem s_k2_wFldSet (cs : List Addr) (f : Str) (F : Fin) (rho : Rho) (v : D) (d : D) (M2 : List D) : k2_wFldSet cs f F rho v d M2 = (match d with
  | .loc k => match M2[k]? with
    | some (.ins C fs) => C ∈ cs ∧ fs.length < 1000 ∧ F.nx rho (M2.set k (.ins C (putD2 f v fs)))
    | _ => False
  | _ => False) := propext Iff.rfl
def k1_wFldSet (cs : List Addr) (f : Str) (wo : TDe) (xc : XC) (F : Fin) (rho : Rho) : D → List D → Prop := fun v M1 => wo xc rho M1 (k2_wFldSet cs f F rho v)
@[simp ↓] theorem s_k1_wFldSet (cs : List Addr) (f : Str) (wo : TDe) (xc : XC) (F : Fin) (rho : Rho) (v : D) (M1 : List D) : k1_wFldSet cs f wo xc F rho v M1 = (wo xc rho M1 (k2_wFldSet cs f F rho v)) := propext Iff.rfl
@[simp ↓] theorem s_wFldSet (cs : List Addr) (f : Str) (wo we : TDe) (xc : XC) (F : Fin) (rho : Rho) (M : List D) : wFldSet cs f wo we xc F rho M = (we xc rho M (k1_wFldSet cs f wo xc F rho)) := propext Iff.rfl
@[simp ↓] theorem s_wRaise (C : Addr) (xc : XC) (u1 : Fin) (rho : Rho) (M : List D) : wRaise C xc u1 rho M = (xc (C, none) rho M) := propext Iff.rfl
@[simp ↓] theorem s_wNever (u0 : XC) (u1 : Fin) (u2 : Rho) (u3 : List D) : wNever  u0 u1 u2 u3 = (False) := propext Iff.rfl
@[simp ↓] theorem s_oIs (u0 : List D) (a : D) (b : D) (Psi : (D → Prop)) : oIs  u0 a b Psi = (match b with
  | .non => Psi (.bl (isNon a))
  | _ => False) := propext Iff.rfl
@[simp ↓] theorem s_oIsNot (u0 : List D) (a : D) (b : D) (Psi : (D → Prop)) : oIsNot  u0 a b Psi = (match b with
  | .non => Psi (.bl (!isNon a))
  | _ => False) := propext Iff.rfl
@[simp ↓] theorem s_oIsi (M : List D) (a : D) (c : D) (Psi : (D → Prop)) : oIsi  M [a, c] Psi = (match tyD M a, c with
  | some t, .ty n => optB (kitB t n) Psi
  | _, _ => False) := propext Iff.rfl
@[simp ↓] theorem s_wTry (wb : TDs) (hs : List ((Addr → Bool → Prop) × TDs)) (xc : XC) (F : Fin) (rho : Rho) (M : List D) : wTry wb hs xc F rho M = (wb (tryXc xc F hs) F rho M) := propext Iff.rfl
def k2_wConsN (Phi : List D → List D → Prop) (M1 : List D) : List D → List D → Prop := fun ds M2 => Phi (.loc M1.length :: ds) M2
@[simp ↓] theorem s_k2_wConsN (Phi : List D → List D → Prop) (M1 : List D) (ds : List D) (M2 : List D) : k2_wConsN Phi M1 ds M2 = (Phi (.loc M1.length :: ds) M2) := propext Iff.rfl
def k1_wConsN (wr : TDa) (xc : XC) (rho : Rho) (Phi : List D → List D → Prop) : D → List D → Prop := fun d M1 => wr xc rho (M1 ++ [d]) (k2_wConsN Phi M1)
@[simp ↓] theorem s_k1_wConsN (wr : TDa) (xc : XC) (rho : Rho) (Phi : List D → List D → Prop) (d : D) (M1 : List D) : k1_wConsN wr xc rho Phi d M1 = (wr xc rho (M1 ++ [d]) (k2_wConsN Phi M1)) := propext Iff.rfl
@[simp ↓] theorem s_wConsN (wa : TDe) (wr : TDa) (xc : XC) (rho : Rho) (M : List D) (Phi : (List D → List D → Prop)) : wConsN wa wr xc rho M Phi = (wa xc rho M (k1_wConsN wr xc rho Phi)) := propext Iff.rfl
def k2_wRep (Phi : D → List D → Prop) (d : D) : D → List D → Prop := fun e M2 => match d, e with
  | .lst xs, .int k => (-(2 ^ 63) ≤ k ∧ k < 2 ^ 63 ∧ xs.length * k.toNat ≤ sizeLine) ∧ Phi (.lst (List.replicate k.toNat xs).flatten) M2
  | _, _ => False
@[simp ↓] theorem s_k2_wRep (Phi : D → List D → Prop) (d : D) (e : D) (M2 : List D) : k2_wRep Phi d e M2 = (match d, e with
  | .lst xs, .int k => (-(2 ^ 63) ≤ k ∧ k < 2 ^ 63 ∧ xs.length * k.toNat ≤ sizeLine) ∧ Phi (.lst (List.replicate k.toNat xs).flatten) M2
  | _, _ => False) := propext Iff.rfl
def k1_wRep (wb : TDe) (xc : XC) (rho : Rho) (Phi : D → List D → Prop) : D → List D → Prop := fun d M1 => wb xc rho M1 (k2_wRep Phi d)
@[simp ↓] theorem s_k1_wRep (wb : TDe) (xc : XC) (rho : Rho) (Phi : D → List D → Prop) (d : D) (M1 : List D) : k1_wRep wb xc rho Phi d M1 = (wb xc rho M1 (k2_wRep Phi d)) := propext Iff.rfl
@[simp ↓] theorem s_wRep (wa wb : TDe) (xc : XC) (rho : Rho) (M : List D) (Phi : (D → List D → Prop)) : wRep wa wb xc rho M Phi = (wa xc rho M (k1_wRep wb xc rho Phi)) := propext Iff.rfl
def k1_wListR (Phi : D → List D → Prop) : List D → (List D → Prop) → List D → Prop := fun items z1 M1 => items.length ≤ 2 ^ 24 ∧ Phi (.lst items) M1
@[simp ↓] theorem s_k1_wListR (Phi : D → List D → Prop) (items : List D) (z1 : List D → Prop) (M1 : List D) : k1_wListR Phi items z1 M1 = (items.length ≤ 2 ^ 24 ∧ Phi (.lst items) M1) := propext Iff.rfl
@[simp ↓] theorem s_wListR (wi : TDi) (xc : XC) (rho : Rho) (M : List D) (Phi : (D → List D → Prop)) : wListR wi xc rho M Phi = (wi xc rho M (k1_wListR Phi)) := propext Iff.rfl
def k1_wTupR (Phi : D → List D → Prop) : List D → (List D → Prop) → List D → Prop := fun items z1 M1 => items.length ≤ 2 ^ 24 ∧ Phi (.tup items) M1
@[simp ↓] theorem s_k1_wTupR (Phi : D → List D → Prop) (items : List D) (z1 : List D → Prop) (M1 : List D) : k1_wTupR Phi items z1 M1 = (items.length ≤ 2 ^ 24 ∧ Phi (.tup items) M1) := propext Iff.rfl
@[simp ↓] theorem s_wTupR (wi : TDi) (xc : XC) (rho : Rho) (M : List D) (Phi : (D → List D → Prop)) : wTupR wi xc rho M Phi = (wi xc rho M (k1_wTupR Phi)) := propext Iff.rfl
def k1_wRg1 (Phi : List D → (List D → Prop) → List D → Prop) : D → List D → Prop := fun d M1 => isI (fun j => (-(2 ^ 62) ≤ j ∧ j < 2 ^ 62) ∧ Phi (rngD 0 j.toNat) (fun _ => True) M1) d
@[simp ↓] theorem s_k1_wRg1 (Phi : List D → (List D → Prop) → List D → Prop) (d : D) (M1 : List D) : k1_wRg1 Phi d M1 = (isI (fun j => (-(2 ^ 62) ≤ j ∧ j < 2 ^ 62) ∧ Phi (rngD 0 j.toNat) (fun _ => True) M1) d) := propext Iff.rfl
@[simp ↓] theorem s_wRg1 (wa : TDe) (xc : XC) (rho : Rho) (M : List D) (Phi : (List D → (List D → Prop) → List D → Prop)) : wRg1 wa xc rho M Phi = (wa xc rho M (k1_wRg1 Phi)) := propext Iff.rfl
def k2_wRg2 (Phi : List D → (List D → Prop) → List D → Prop) (d : D) : D → List D → Prop := fun d2 M2 => match d, d2 with
  | .int i, .int j => (-(2 ^ 62) ≤ i ∧ i < 2 ^ 62 ∧ -(2 ^ 62) ≤ j ∧ j < 2 ^ 62) ∧ Phi (rngD i (j - i).toNat) (fun _ => True) M2
  | _, _ => False
@[simp ↓] theorem s_k2_wRg2 (Phi : List D → (List D → Prop) → List D → Prop) (d : D) (d2 : D) (M2 : List D) : k2_wRg2 Phi d d2 M2 = (match d, d2 with
  | .int i, .int j => (-(2 ^ 62) ≤ i ∧ i < 2 ^ 62 ∧ -(2 ^ 62) ≤ j ∧ j < 2 ^ 62) ∧ Phi (rngD i (j - i).toNat) (fun _ => True) M2
  | _, _ => False) := propext Iff.rfl
def k1_wRg2 (wb : TDe) (xc : XC) (rho : Rho) (Phi : List D → (List D → Prop) → List D → Prop) : D → List D → Prop := fun d M1 => wb xc rho M1 (k2_wRg2 Phi d)
@[simp ↓] theorem s_k1_wRg2 (wb : TDe) (xc : XC) (rho : Rho) (Phi : List D → (List D → Prop) → List D → Prop) (d : D) (M1 : List D) : k1_wRg2 wb xc rho Phi d M1 = (wb xc rho M1 (k2_wRg2 Phi d)) := propext Iff.rfl
@[simp ↓] theorem s_wRg2 (wa wb : TDe) (xc : XC) (rho : Rho) (M : List D) (Phi : (List D → (List D → Prop) → List D → Prop)) : wRg2 wa wb xc rho M Phi = (wa xc rho M (k1_wRg2 wb xc rho Phi)) := propext Iff.rfl
def k1_wLenSet (Phi : D → List D → Prop) : D → List D → Prop := fun d M1 => match d with
  | .lst ds => ∃ ns : List Int, ds = ns.map D.int ∧ ns.length ≤ 4000 ∧ Phi (.int ((distinct ns).length : Nat)) M1
  | _ => False
@[simp ↓] theorem s_k1_wLenSet (Phi : D → List D → Prop) (d : D) (M1 : List D) : k1_wLenSet Phi d M1 = (match d with
  | .lst ds => ∃ ns : List Int, ds = ns.map D.int ∧ ns.length ≤ 4000 ∧ Phi (.int ((distinct ns).length : Nat)) M1
  | _ => False) := propext Iff.rfl
@[simp ↓] theorem s_wLenSet (wa : TDe) (xc : XC) (rho : Rho) (M : List D) (Phi : (D → List D → Prop)) : wLenSet wa xc rho M Phi = (wa xc rho M (k1_wLenSet Phi)) := propext Iff.rfl
@[simp ↓] theorem s_wDGet (wo we wf : TDe) (xc : XC) (rho : Rho) (M : List D) (Phi : (D → List D → Prop)) : wDGet wo we wf xc rho M Phi = (wo xc rho M fun d M1 => (match dctOf M1 d with | some _ => True | none => False) ∧ we xc rho M1 fun k M2 => wf xc rho M2 fun z M3 => match dctOf M3 d, k with
  | some kvs, .int i => intKeys kvs = true ∧ Phi ((assocI i kvs).getD z) M3
  | _, _ => False) := propext Iff.rfl
@[simp ↓] theorem s_oSortedP (M : List D) (a : D) (Psi : (D → Prop)) : oSortedP  M [a] Psi = (match lstOf M a with
  | some ds => match pairsD ds with
    | some ps => ∀ qs : List (Int × Int), qs.Perm ps → qs.Pairwise (fun p q => SrtO.lexB q p = false) → Psi (.lst (qs.map pD))
    | none => False
  | none => False) := propext Iff.rfl
@[simp ↓] theorem s_oIsiT (M : List D) (a : D) (c : D) (Psi : (D → Prop)) : oIsiT  M [a, c] Psi = (match tyD M a, c with
  | some t, .tup ds => match tysD ds with
    | some ns => optB (kitAnyB t ns) Psi
    | none => False
  | _, _ => False) := propext Iff.rfl
def k2_wDictZ (Phi : D → List D → Prop) (d : D) : D → List D → Prop := fun e M2 => match seqOf M2 d, seqOf M2 e with
  | some xs, some ys => ∃ ks : List Int, xs = ks.map D.int ∧ ks.Nodup ∧ Phi (.dct (List.zipWith (fun k y => (D.int k, y)) ks ys)) M2
  | _, _ => False
@[simp ↓] theorem s_k2_wDictZ (Phi : D → List D → Prop) (d : D) (e : D) (M2 : List D) : k2_wDictZ Phi d e M2 = (match seqOf M2 d, seqOf M2 e with
  | some xs, some ys => ∃ ks : List Int, xs = ks.map D.int ∧ ks.Nodup ∧ Phi (.dct (List.zipWith (fun k y => (D.int k, y)) ks ys)) M2
  | _, _ => False) := propext Iff.rfl
def k1_wDictZ (wb : TDe) (xc : XC) (rho : Rho) (Phi : D → List D → Prop) : D → List D → Prop := fun d M1 => wb xc rho M1 (k2_wDictZ Phi d)
@[simp ↓] theorem s_k1_wDictZ (wb : TDe) (xc : XC) (rho : Rho) (Phi : D → List D → Prop) (d : D) (M1 : List D) : k1_wDictZ wb xc rho Phi d M1 = (wb xc rho M1 (k2_wDictZ Phi d)) := propext Iff.rfl
@[simp ↓] theorem s_wDictZ (wa wb : TDe) (xc : XC) (rho : Rho) (M : List D) (Phi : (D → List D → Prop)) : wDictZ wa wb xc rho M Phi = (wa xc rho M (k1_wDictZ wb xc rho Phi)) := propext Iff.rfl
def k2_wZip (M : List D) (Phi : List D → (List D → Prop) → List D → Prop) (d : D) : D → List D → Prop := fun e M2 => match seqOf M2 d, seqOf M2 e with
  | some xs, some ys => xs.length ≤ sizeLine → ys.length ≤ sizeLine → Phi (zipD xs ys) (fun M' => seqOf M' d = some xs ∧ seqOf M' e = some ys) M2
  | _, _ => False
@[simp ↓] theorem s_k2_wZip (M : List D) (Phi : List D → (List D → Prop) → List D → Prop) (d : D) (e : D) (M2 : List D) : k2_wZip M Phi d e M2 = (match seqOf M2 d, seqOf M2 e with
  | some xs, some ys => xs.length ≤ sizeLine → ys.length ≤ sizeLine → Phi (zipD xs ys) (fun M' => seqOf M' d = some xs ∧ seqOf M' e = some ys) M2
  | _, _ => False) := propext Iff.rfl
def k1_wZip (wb : TDe) (xc : XC) (rho : Rho) (M : List D) (Phi : List D → (List D → Prop) → List D → Prop) : D → List D → Prop := fun d M1 => wb xc rho M1 (k2_wZip M Phi d)
@[simp ↓] theorem s_k1_wZip (wb : TDe) (xc : XC) (rho : Rho) (M : List D) (Phi : List D → (List D → Prop) → List D → Prop) (d : D) (M1 : List D) : k1_wZip wb xc rho M Phi d M1 = (wb xc rho M1 (k2_wZip M Phi d)) := propext Iff.rfl
@[simp ↓] theorem s_wZip (wa wb : TDe) (xc : XC) (rho : Rho) (M : List D) (Phi : (List D → (List D → Prop) → List D → Prop)) : wZip wa wb xc rho M Phi = (wa xc rho M (k1_wZip wb xc rho M Phi)) := propext Iff.rfl

@[simp ↓] theorem s_addI (M : List D) (i j : Int) (Psi : D → Prop) : oAdd M (.int i) (.int j) Psi = Psi (.int (i + j)) := rfl
@[simp ↓] theorem s_addT (M : List D) (i j : List D) (Psi : D → Prop) : oAdd M (.tup i) (.tup j) Psi = (i.length + j.length ≤ sizeLine ∧ Psi (.tup (i ++ j))) := rfl
@[simp ↓] theorem s_addS (M : List D) (i j : Str) (Psi : D → Prop) : oAdd M (.str i) (.str j) Psi = (i.length + j.length ≤ sizeLine ∧ Psi (.str (i ++ j))) := rfl
@[simp ↓] theorem s_addL (M : List D) (i j : List D) (Psi : D → Prop) : oAdd M (.lst i) (.lst j) Psi = (i.length + j.length ≤ sizeLine ∧ Psi (.lst (i ++ j))) := rfl
def kTst (Phi : Bool → List D → Prop) : D → List D → Prop := fun d M => isB (fun b => Phi b M) d
@[simp ↓] theorem s_kTst (Phi : Bool → List D → Prop) (b : Bool) (M : List D) : kTst Phi (.bl b) M = Phi b M := propext Iff.rfl
@[simp ↓] theorem s_wTst (w : TDe) (xc : XC) (rho : Rho) (M : List D) (Phi : Bool → List D → Prop) : wTst w xc rho M Phi = w xc rho M (kTst Phi) := propext Iff.rfl
/-! named continuations: nothing behind a call is read ahead -/
def nxt (w2 : TDs) (xc : XC) (F : Fin) : Rho → List D → Prop := fun rho M => w2 xc F rho M
@[simp ↓] theorem s_nxt (w2 : TDs) (xc : XC) (F : Fin) (rho : Rho) (M : List D) : nxt w2 xc F rho M = w2 xc F rho M := propext Iff.rfl
@[simp ↓] theorem s_wSeq (w1 w2 : TDs) (xc : XC) (F : Fin) (rho : Rho) (M : List D) : wSeq w1 w2 xc F rho M = w1 xc ⟨nxt w2 xc F, F.rt, F.bk, F.ct⟩ rho M := propext Iff.rfl
def kIte (w1 w2 : TDs) (xc : XC) (F : Fin) (rho : Rho) : Bool → List D → Prop := fun b M1 => if b = true then w1 xc F rho M1 else w2 xc F rho M1
@[simp ↓] theorem s_kIte (w1 w2 : TDs) (xc : XC) (F : Fin) (rho : Rho) (b : Bool) (M : List D) : kIte w1 w2 xc F rho b M = (if b = true then nxt w1 xc F rho M else nxt w2 xc F rho M) := propext Iff.rfl
@[simp ↓] theorem s_wIte (t : TDt) (w1 w2 : TDs) (xc : XC) (F : Fin) (rho : Rho) (M : List D) : wIte t w1 w2 xc F rho M = t xc rho M (kIte w1 w2 xc F rho) := propext Iff.rfl
def evl (w : TDe) (xc : XC) (rho : Rho) (M : List D) (Phi : D → List D → Prop) : Prop := w xc rho M Phi
@[simp ↓] theorem s_evl (w : TDe) (xc : XC) (rho : Rho) (M : List D) (Phi : D → List D → Prop) : evl w xc rho M Phi = w xc rho M Phi := propext Iff.rfl
def kIf (wa wb : TDe) (xc : XC) (rho : Rho) (Phi : D → List D → Prop) : Bool → List D → Prop := fun c M1 => if c = true then wa xc rho M1 Phi else wb xc rho M1 Phi
@[simp ↓] theorem s_kIf (wa wb : TDe) (xc : XC) (rho : Rho) (Phi : D → List D → Prop) (b : Bool) (M : List D) : kIf wa wb xc rho Phi b M = (if b = true then evl wa xc rho M Phi else evl wb xc rho M Phi) := propext Iff.rfl
@[simp ↓] theorem s_wIf (t : TDt) (wa wb : TDe) (xc : XC) (rho : Rho) (M : List D) (Phi : D → List D → Prop) : wIf t wa wb xc rho M Phi = t xc rho M (kIf wa wb xc rho Phi) := propext Iff.rfl
def kAnd (u : TDt) (xc : XC) (rho : Rho) (Phi : Bool → List D → Prop) : Bool → List D → Prop := fun c M1 => if c = true then u xc rho M1 Phi else Phi false M1
@[simp ↓] theorem s_kAndT (u : TDt) (xc : XC) (rho : Rho) (Phi : Bool → List D → Prop) (M : List D) : kAnd u xc rho Phi true M = u xc rho M Phi := propext Iff.rfl
@[simp ↓] theorem s_kAndF (u : TDt) (xc : XC) (rho : Rho) (Phi : Bool → List D → Prop) (M : List D) : kAnd u xc rho Phi false M = Phi false M := if_neg Bool.false_ne_true
@[simp] theorem s_kAnd (u : TDt) (xc : XC) (rho : Rho) (Phi : Bool → List D → Prop) (b : Bool) (M : List D) : kAnd u xc rho Phi b M = (if b = true then u xc rho M Phi else Phi false M) := propext Iff.rfl
@[simp ↓] theorem s_wAnd (t u : TDt) (xc : XC) (rho : Rho) (M : List D) (Phi : Bool → List D → Prop) : wAnd t u xc rho M Phi = t xc rho M (kAnd u xc rho Phi) := propext Iff.rfl
def kOr (u : TDt) (xc : XC) (rho : Rho) (Phi : Bool → List D → Prop) : Bool → List D → Prop := fun c M1 => if c = true then Phi true M1 else u xc rho M1 Phi
@[simp ↓] theorem s_kOrT (u : TDt) (xc : XC) (rho : Rho) (Phi : Bool → List D → Prop) (M : List D) : kOr u xc rho Phi true M = Phi true M := propext Iff.rfl
@[simp ↓] theorem s_kOrF (u : TDt) (xc : XC) (rho : Rho) (Phi : Bool → List D → Prop) (M : List D) : kOr u xc rho Phi false M = u xc rho M Phi := if_neg Bool.false_ne_true
@[simp] theorem s_kOr (u : TDt) (xc : XC) (rho : Rho) (Phi : Bool → List D → Prop) (b : Bool) (M : List D) : kOr u xc rho Phi b M = (if b = true then Phi true M else u xc rho M Phi) := propext Iff.rfl
@[simp ↓] theorem s_wOr (t u : TDt) (xc : XC) (rho : Rho) (M : List D) (Phi : Bool → List D → Prop) : wOr t u xc rho M Phi = t xc rho M (kOr u xc rho Phi) := propext Iff.rfl
def kAndV (u : TDe) (xc : XC) (rho : Rho) (Phi : D → List D → Prop) : D → List D → Prop := fun d M1 => isB (fun c => if c = true then u xc rho M1 Phi else Phi (.bl false) M1) d
@[simp ↓] theorem s_kAndVT (u : TDe) (xc : XC) (rho : Rho) (Phi : D → List D → Prop) (M : List D) : kAndV u xc rho Phi (.bl true) M = u xc rho M Phi := propext Iff.rfl
@[simp ↓] theorem s_kAndVF (u : TDe) (xc : XC) (rho : Rho) (Phi : D → List D → Prop) (M : List D) : kAndV u xc rho Phi (.bl false) M = Phi (.bl false) M := by
  show (if false = true then u xc rho M Phi else Phi (.bl false) M) = _
  exact if_neg Bool.false_ne_true
@[simp] theorem s_kAndV (u : TDe) (xc : XC) (rho : Rho) (Phi : D → List D → Prop) (b : Bool) (M : List D) : kAndV u xc rho Phi (.bl b) M = (if b = true then u xc rho M Phi else Phi (.bl false) M) := propext Iff.rfl
@[simp ↓] theorem s_wAndV (t u : TDe) (xc : XC) (rho : Rho) (M : List D) (Phi : D → List D → Prop) : wAndV t u xc rho M Phi = t xc rho M (kAndV u xc rho Phi) := propext Iff.rfl
def kOrV (u : TDe) (xc : XC) (rho : Rho) (Phi : D → List D → Prop) : D → List D → Prop := fun d M1 => isB (fun c => if c = true then Phi (.bl true) M1 else u xc rho M1 Phi) d
@[simp ↓] theorem s_kOrVT (u : TDe) (xc : XC) (rho : Rho) (Phi : D → List D → Prop) (M : List D) : kOrV u xc rho Phi (.bl true) M = Phi (.bl true) M := propext Iff.rfl
@[simp ↓] theorem s_kOrVF (u : TDe) (xc : XC) (rho : Rho) (Phi : D → List D → Prop) (M : List D) : kOrV u xc rho Phi (.bl false) M = u xc rho M Phi := by
  show (if false = true then Phi (.bl true) M else u xc rho M Phi) = _
  exact if_neg Bool.false_ne_true
@[simp] theorem s_kOrV (u : TDe) (xc : XC) (rho : Rho) (Phi : D → List D → Prop) (b : Bool) (M : List D) : kOrV u xc rho Phi (.bl b) M = (if b = true then Phi (.bl true) M else u xc rho M Phi) := propext Iff.rfl
@[simp ↓] theorem s_wOrV (t u : TDe) (xc : XC) (rho : Rho) (M : List D) (Phi : D → List D → Prop) : wOrV t u xc rho M Phi = t xc rho M (kOrV u xc rho Phi) := propext Iff.rfl
def kSet (i : Nat) (F : Fin) (rho : Rho) : D → List D → Prop := fun d M1 => F.nx (rho.set i (some d)) M1
@[simp] theorem s_kSet (i : Nat) (F : Fin) (rho : Rho) (d : D) (M : List D) : kSet i F rho d M = F.nx (rho.set i (some d)) M := propext Iff.rfl
@[simp ↓] theorem s_wSet (i : Nat) (we : TDe) (xc : XC) (F : Fin) (rho : Rho) (M : List D) : wSet i we xc F rho M = we xc rho M (kSet i F rho) := propext Iff.rfl
def kNew (i : Nat) (F : Fin) (rho : Rho) : D → List D → Prop := fun d M1 => F.nx (rho.set i (some (.loc M1.length))) (M1 ++ [d])
@[simp] theorem s_kNew (i : Nat) (F : Fin) (rho : Rho) (d : D) (M : List D) : kNew i F rho d M = F.nx (rho.set i (some (.loc M.length))) (M ++ [d]) := propext Iff.rfl
@[simp ↓] theorem s_wNew (i : Nat) (we : TDe) (xc : XC) (F : Fin) (rho : Rho) (M : List D) : wNew i we xc F rho M = we xc rho M (kNew i F rho) := propext Iff.rfl
def kDrop (F : Fin) (rho : Rho) : D → List D → Prop := fun _ M1 => F.nx rho M1
@[simp] theorem s_kDrop (F : Fin) (rho : Rho) (d : D) (M : List D) : kDrop F rho d M = F.nx rho M := propext Iff.rfl
@[simp ↓] theorem s_wDrop (we : TDe) (xc : XC) (F : Fin) (rho : Rho) (M : List D) : wDrop we xc F rho M = we xc rho M (kDrop F rho) := propext Iff.rfl
def kAug (i : Nat) (f : Op2) (F : Fin) (rho : Rho) (a : D) : D → List D → Prop := fun b M1 => f M1 a b fun d => F.nx (rho.set i (some d)) M1
@[simp] theorem s_kAug (i : Nat) (f : Op2) (F : Fin) (rho : Rho) (a b : D) (M : List D) : kAug i f F rho a b M = f M a b fun d => kSet i F rho d M := propext Iff.rfl
@[simp] theorem s_wAug (i : Nat) (f : Op2) (we : TDe) (xc : XC) (F : Fin) (rho : Rho) (M : List D) : wAug i f we xc F rho M = (match rho[i]? with
  | some (some a) => we xc rho M (kAug i f F rho a)
  | _ => False) := propext Iff.rfl
def kAsg (g : TDg) (F : Fin) (rho : Rho) : D → List D → Prop := fun d M1 => g d rho M1 fun rho2 M2 => F.nx rho2 M2
@[simp] theorem s_kAsg (g : TDg) (F : Fin) (rho : Rho) (d : D) (M : List D) : kAsg g F rho d M = g d rho M F.nx := propext Iff.rfl
@[simp ↓] theorem s_wAsg (we : TDe) (g : TDg) (xc : XC) (F : Fin) (rho : Rho) (M : List D) : wAsg we g xc F rho M = we xc rho M (kAsg g F rho) := propext Iff.rfl
def kRet (F : Fin) : D → List D → Prop := fun d M1 => F.rt d M1
@[simp] theorem s_kRet (F : Fin) (d : D) (M : List D) : kRet F d M = F.rt d M := propext Iff.rfl
@[simp ↓] theorem s_wRet (we : TDe) (xc : XC) (F : Fin) (rho : Rho) (M : List D) : wRet we xc F rho M = we xc rho M (kRet F) := propext Iff.rfl
def kRetW (F : Fin) : D → List D → Prop := fun d M1 => F.rt (.loc M1.length) (M1 ++ [d])
@[simp] theorem s_kRetW (F : Fin) (d : D) (M : List D) : kRetW F d M = F.rt (.loc M.length) (M ++ [d]) := propext Iff.rfl
@[simp ↓] theorem s_wRetW (we : TDe) (xc : XC) (F : Fin) (rho : Rho) (M : List D) : wRetW we xc F rho M = we xc rho M (kRetW F) := propext Iff.rfl
@[simp ↓] theorem s_oII (C : Int → Int → Prop) (h : Int → Int → D) (M : List D) (i j : Int) (Psi : D → Prop) : oII C h M (.int i) (.int j) Psi = (C i j ∧ Psi (h i j)) := propext Iff.rfl
@[simp ↓] theorem s_oI0 (h : Int → Int → D) (M : List D) (i j : Int) (Psi : D → Prop) : oI0 h M (.int i) (.int j) Psi = Psi (h i j) := propext Iff.rfl
@[simp] theorem s_isB (Phi : Bool → Prop) (b : Bool) : isB Phi (.bl b) = Phi b := propext Iff.rfl
@[simp] theorem s_isI (Phi : Int → Prop) (b : Int) : isI Phi (.int b) = Phi b := propext Iff.rfl
def imax (i j : Int) : Int := if j > i then j else i
def imin (i j : Int) : Int := if j < i then j else i
theorem imax_eq (i j : Int) : imax i j = max i j := by unfold imax; omega
theorem imin_eq (i j : Int) : imin i j = min i j := by unfold imin; omega
@[simp] theorem s_max2 (M : List D) (i j : Int) (Psi : D → Prop) : int2 (fun i j => if j > i then j else i) M [.int i, .int j] Psi = Psi (.int (imax i j)) := propext Iff.rfl
@[simp] theorem s_min2 (M : List D) (i j : Int) (Psi : D → Prop) : int2 (fun i j => if j < i then j else i) M [.int i, .int j] Psi = Psi (.int (imin i j)) := propext Iff.rfl
theorem s_lstI (M : List D) (a : D) (f : List Int → Prop) {ns : List Int} (h : lstOf M a = some (ns.map D.int)) : lstI M a f = f ns := by unfold lstI; rw [h]; simp only [intsD_map]
theorem s_lstB (M : List D) (a : D) (f : List Bool → Prop) {ns : List Bool} (h : lstOf M a = some (ns.map D.bl)) : lstB M a f = f ns := by unfold lstB; rw [h]; simp only [blsD_map]
@[simp] theorem s_lstBm {α : Type} (M : List D) (xs : List α) (g : α → Bool) (f : List Bool → Prop) : lstB M (.lst (xs.map fun x => D.bl (g x))) f = f (xs.map g) := by
  have e : (xs.map fun x => D.bl (g x)) = (xs.map g).map D.bl := by rw [List.map_map]; rfl
  unfold lstB
  simp only [lstOf]
  rw [e, blsD_map]
@[simp] theorem s_lstIm {α : Type} (M : List D) (xs : List α) (g : α → Int) (f : List Int → Prop) : lstI M (.lst (xs.map fun x => D.int (g x))) f = f (xs.map g) := by
  have e : (xs.map fun x => D.int (g x)) = (xs.map g).map D.int := by rw [List.map_map]; rfl
  unfold lstI
  simp only [lstOf]
  rw [e, intsD_map]
@[simp] theorem s_optP (d : D) (Psi : D → Prop) : optP (some d) Psi = Psi d := propext Iff.rfl
@[simp] theorem s_optB (b : Bool) (Psi : D → Prop) : optB (some b) Psi = Psi (.bl b) := propext Iff.rfl
@[simp] theorem s_forN (g : TDg) (wb : TDs) (gd : List D → Prop) (xc : XC) (F : Fin) (rho : Rho) (M : List D) : forGo g wb gd xc F [] rho M = (gd M ∧ F.nx rho M) := propext Iff.rfl
@[simp] theorem s_forC (g : TDg) (wb : TDs) (gd : List D → Prop) (xc : XC) (F : Fin) (d : D) (ds : List D) (rho : Rho) (M : List D) : forGo g wb gd xc F (d :: ds) rho M =
    (gd M ∧ g d rho M fun rho1 M1 => wb xc { nx := forGo g wb gd xc F ds, rt := F.rt, ct := forGo g wb gd xc F ds, bk := F.nx } rho1 M1) := propext Iff.rfl
@[simp] theorem s_lcN (g : TDg) (wt : TDt) (we : TDe) (gd : List D → Prop) (rho : Rho) (Phi : D → List D → Prop) (acc M : List D) : lcGo g wt we gd rho Phi [] acc M = (gd M ∧ Phi (.lst acc) M) := propext Iff.rfl
@[simp] theorem s_lcC (g : TDg) (wt : TDt) (we : TDe) (gd : List D → Prop) (rho : Rho) (Phi : D → List D → Prop) (d : D) (ds acc M : List D) : lcGo g wt we gd rho Phi (d :: ds) acc M =
    (gd M ∧ g d rho M fun rho1 M1 => wt xc0 rho1 M1 fun b M2 => if b = true then we xc0 rho1 M2 fun y M3 => lcGo g wt we gd rho Phi ds (acc ++ [y]) M3 else lcGo g wt we gd rho Phi ds acc M2) := propext Iff.rfl
@[simp] theorem s_tryN (xc : XC) (F : Fin) (x : Exn) (rho : Rho) (M : List D) : tryXc xc F [] x rho M = xc x rho M := propext Iff.rfl
@[simp] theorem s_tryC (xc : XC) (F : Fin) (m : Addr → Bool → Prop) (w : TDs) (r : List ((Addr → Bool → Prop) × TDs)) (x : Exn) (rho : Rho) (M : List D) : tryXc xc F ((m, w) :: r) x rho M = (∃ b, m x.1 b ∧ if b = true then w xc0 F rho M else tryXc xc F r x rho M) := propext Iff.rfl
@[simp] theorem s_finR (n : Nat) (F : FinC) (d : D) (M : List D) : (finD n F).rt d M = RetD n F d M := propext Iff.rfl
@[simp] theorem s_finN (n : Nat) (F : FinC) (rho : Rho) (M : List D) : (finD n F).nx rho M = RetD n F .non M := propext Iff.rfl
@[simp] theorem s_xcD (n : Nat) (F : FinC) (x : Exn) (rho : Rho) (M : List D) : xcD n F x rho M = RaiD n F x M := propext Iff.rfl
@[simp] theorem s_wipN (rho : Rho) : wipeD rho [] = rho := rfl
@[simp] theorem s_wipC (rho : Rho) (v : Nat) (vs : List Nat) : wipeD rho (v :: vs) = (wipeD rho vs).set v none := rfl
@[simp] theorem s_insI (M : List D) (C : Addr) (fs : List (Str × D)) : insOf M (.ins C fs) = some (C, fs) := rfl
theorem s_insL {M : List D} {k : Nat} {C : Addr} {fs : List (Str × D)} (h : M[k]? = some (.ins C fs)) : insOf M (.loc k) = some (C, fs) := by unfold insOf; simp only [h]
@[simp] theorem s_lstL (M : List D) (xs : List D) : lstOf M (.lst xs) = some xs := rfl
@[simp] theorem s_lstT (M : List D) (xs : List D) : lstOf M (.tup xs) = none := rfl
@[simp] theorem s_lstK (M : List D) (k : Nat) : lstOf M (.loc k) = (match M[k]? with | some (.lst ds) => some ds | _ => none) := rfl
@[simp] theorem s_dctK (M : List D) (k : Nat) : dctOf M (.loc k) = (match M[k]? with | some (.dct ds) => some ds | _ => none) := rfl
@[simp] theorem s_dctD (M : List D) (ds : List (D × D)) : dctOf M (.dct ds) = some ds := rfl
@[simp] theorem s_insK (M : List D) (k : Nat) : insOf M (.loc k) = (match M[k]? with | some (.ins C fs) => some (C, fs) | _ => none) := rfl
@[simp] theorem s_seqT (M : List D) (xs : List D) : seqOf M (.tup xs) = some xs := rfl
@[simp] theorem s_seqL (M : List D) (xs : List D) : seqOf M (.lst xs) = some xs := rfl
@[simp] theorem s_seqK (M : List D) (k : Nat) : seqOf M (.loc k) = (match M[k]? with | some (.lst ds) => some ds | _ => none) := rfl
@[simp] theorem s_seqOT (M : List D) (xs : List D) : seqO M (.tup xs) = some xs := rfl
@[simp] theorem s_seqOL (M : List D) (xs : List D) : seqO M (.lst xs) = some xs := rfl
@[simp] theorem s_seqOK (M : List D) (k : Nat) : seqO M (.loc k) = (match M[k]? with | some (.lst ds) => some ds | _ => none) := rfl
@[simp] theorem s_seqX (M : List D) (xs : List D) : seqOf M (.tpx xs) = some xs := rfl
@[simp] theorem s_tupX (xs : List D) : tupOf (.tpx xs) = some xs := rfl
@[simp] theorem s_tupOT (xs : List D) : tupO (.tup xs) = some xs := rfl
@[simp] theorem s_tupOL (xs : List D) : tupO (.lst xs) = none := rfl
@[simp] theorem s_tupOK (k : Nat) : tupO (.loc k) = none := rfl
@[simp] theorem s_tupT (xs : List D) : tupOf (.tup xs) = some xs := rfl
@[simp] theorem s_tupL (xs : List D) : tupOf (.lst xs) = none := rfl
@[simp] theorem s_tupK (k : Nat) : tupOf (.loc k) = none := rfl
@[simp] theorem s_atL (M : List D) (k : Nat) (f : Nat → List D → Prop) : atL M (.loc k) f = (match M[k]? with | some (.lst ds) => f k ds | _ => False) := rfl
@[simp] theorem s_vInt (i : Int) : vOf (.int i) = some (.int i) := rfl
@[simp] theorem s_isNon : isNon .non = true := rfl
@[simp] theorem s_isNonI (i : Int) : isNon (.int i) = false := rfl
@[simp] theorem s_isNonB (i : Bool) : isNon (.bl i) = false := rfl
@[simp] theorem s_isNonS (i : Str) : isNon (.str i) = false := rfl
@[simp] theorem s_isNonT (i : List D) : isNon (.tup i) = false := rfl
@[simp] theorem s_isNonL (i : List D) : isNon (.lst i) = false := rfl
@[simp] theorem s_isNonK (i : Nat) : isNon (.loc i) = false := rfl
@[simp] theorem s_isNonX (C : Addr) (fs : List (Str × D)) : isNon (.ins C fs) = false := rfl
@[simp] theorem t_non (M : List D) : tyD M .non = some "NoneType" := rfl
@[simp] theorem t_bl (M : List D) (b : Bool) : tyD M (.bl b) = some "bool" := rfl
@[simp] theorem t_int (M : List D) (b : Int) : tyD M (.int b) = some "int" := rfl
@[simp] theorem t_str (M : List D) (b : Str) : tyD M (.str b) = some "str" := rfl
@[simp] theorem t_tpx (M : List D) (b : List D) : tyD M (.tpx b) = some "tuple" := rfl
@[simp] theorem t_tup (M : List D) (b : List D) : tyD M (.tup b) = some "tuple" := rfl
@[simp] theorem t_lst (M : List D) (b : List D) : tyD M (.lst b) = some "list" := rfl
@[simp] theorem t_dct (M : List D) (b : List (D × D)) : tyD M (.dct b) = some "dict" := rfl
@[simp] theorem t_loc (M : List D) (k : Nat) : tyD M (.loc k) = (match M[k]? with | some (.lst _) => some "list" | some (.dct _) => some "dict" | _ => none) := rfl
@[simp] theorem k_int_int : kitB "int" "int" = some true := by decide +kernel
@[simp] theorem k_bool_int : kitB "bool" "int" = some true := by decide +kernel
@[simp] theorem k_non_int : kitB "NoneType" "int" = some false := by decide +kernel
@[simp] theorem k_str_int : kitB "str" "int" = some false := by decide +kernel
@[simp] theorem k_tup_int : kitB "tuple" "int" = some false := by decide +kernel
@[simp] theorem k_lst_int : kitB "list" "int" = some false := by decide +kernel
@[simp] theorem k_dct_int : kitB "dict" "int" = some false := by decide +kernel
@[simp] theorem k_int_bool : kitB "int" "bool" = some false := by decide +kernel
@[simp] theorem k_bool_bool : kitB "bool" "bool" = some true := by decide +kernel
@[simp] theorem k_int_tup : kitB "int" "tuple" = some false := by decide +kernel
@[simp] theorem k_bool_tup : kitB "bool" "tuple" = some false := by decide +kernel
@[simp] theorem k_non_tup : kitB "NoneType" "tuple" = some false := by decide +kernel
@[simp] theorem k_str_tup : kitB "str" "tuple" = some false := by decide +kernel
@[simp] theorem k_tup_tup : kitB "tuple" "tuple" = some true := by decide +kernel
@[simp] theorem k_lst_tup : kitB "list" "tuple" = some false := by decide +kernel
@[simp] theorem k_dct_tup : kitB "dict" "tuple" = some false := by decide +kernel
@[simp] theorem k_int_lst : kitB "int" "list" = some false := by decide +kernel
@[simp] theorem k_bool_lst : kitB "bool" "list" = some false := by decide +kernel
@[simp] theorem k_non_lst : kitB "NoneType" "list" = some false := by decide +kernel
@[simp] theorem k_str_lst : kitB "str" "list" = some false := by decide +kernel
@[simp] theorem k_tup_lst : kitB "tuple" "list" = some false := by decide +kernel
@[simp] theorem k_lst_lst : kitB "list" "list" = some true := by decide +kernel
@[simp] theorem k_dct_lst : kitB "dict" "list" = some false := by decide +kernel
@[simp] theorem l_non (m : Nat) : D.lt m .non = true := rfl
@[simp] theorem l_bl (m : Nat) (b : Bool) : D.lt m (.bl b) = true := rfl
@[simp] theorem l_int (m : Nat) (b : Int) : D.lt m (.int b) = true := rfl
@[simp] theorem l_str (m : Nat) (b : Str) : D.lt m (.str b) = true := rfl
@[simp] theorem l_adr (m : Nat) (b : Addr) : D.lt m (.adr b) = true := rfl
@[simp] theorem l_ty (m : Nat) (b : String) : D.lt m (.ty b) = true := rfl
@[simp] theorem l_tup (m : Nat) (b : List D) : D.lt m (.tup b) = ltL m b := by rw [D.lt]
@[simp] theorem l_lst (m : Nat) (b : List D) : D.lt m (.lst b) = ltL m b := by rw [D.lt]
@[simp] theorem l_ins (m : Nat) (C : Addr) (b : List (Str × D)) : D.lt m (.ins C b) = ltF m b := by rw [D.lt]
@[simp] theorem l_dct (m : Nat) (b : List (D × D)) : D.lt m (.dct b) = ltP m b := by rw [D.lt]
@[simp] theorem l_loc (m k : Nat) : D.lt m (.loc k) = decide (k < m) := by rw [D.lt]
@[simp] theorem l_nil (m : Nat) : ltL m [] = true := by rw [ltL]
@[simp] theorem l_cons (m : Nat) (d : D) (r : List D) : ltL m (d :: r) = (d.lt m && ltL m r) := by rw [ltL]
@[simp] theorem l_app (m : Nat) : ∀ (a b : List D), ltL m (a ++ b) = (ltL m a && ltL m b)
  | [], b => by simp
  | d :: a, b => by rw [List.cons_append, l_cons, l_cons, l_app m a b, Bool.and_assoc]
@[simp] theorem l_fn (m : Nat) : ltF m [] = true := by rw [ltF]
@[simp] theorem l_fc (m : Nat) (x : Str) (d : D) (r : List (Str × D)) : ltF m ((x, d) :: r) = (d.lt m && ltF m r) := by rw [ltF]
@[simp] theorem l_pn (m : Nat) : ltP m [] = true := by rw [ltP]
@[simp] theorem l_pc (m : Nat) (x d : D) (r : List (D × D)) : ltP m ((x, d) :: r) = (x.lt m && d.lt m && ltP m r) := by rw [ltP]
theorem l_map {α : Type} (m : Nat) {f : α → D} (h : ∀ a, (f a).lt m = true) : ∀ xs : List α, ltL m (xs.map f) = true
  | [] => by simp
  | a :: xs => by simp [h a, l_map m h xs]
@[simp] theorem l_ints (m : Nat) (ns : List Int) : ltL m (ns.map D.int) = true := l_map m (fun _ => rfl) ns
@[simp] theorem l_pD (m : Nat) (p : Int × Int) : (pD p).lt m = true := by simp [pD]
@[simp] theorem l_pDs (m : Nat) (ns : List (Int × Int)) : ltL m (ns.map pD) = true := l_map m (l_pD m) ns
@[simp] theorem s_renN (f : Nat → Nat) : renL f [] = [] := by rw [renL]
@[simp] theorem s_renC (f : Nat → Nat) (d : D) (r : List D) : renL f (d :: r) = d.ren f :: renL f r := by rw [renL]
@[simp] theorem s_renK (f : Nat → Nat) (k : Nat) : (D.loc k).ren f = .loc (f k) := by rw [D.ren]
@[simp] theorem s_renI (f : Nat → Nat) (k : Int) : (D.int k).ren f = .int k := by rw [D.ren] <;> simp
@[simp] theorem s_renB (f : Nat → Nat) (k : Bool) : (D.bl k).ren f = .bl k := by rw [D.ren] <;> simp
@[simp] theorem s_renS (f : Nat → Nat) (k : Str) : (D.str k).ren f = .str k := by rw [D.ren] <;> simp
@[simp] theorem s_ren0 (f : Nat → Nat) : D.non.ren f = .non := by rw [D.ren] <;> simp
@[simp] theorem s_renT (f : Nat → Nat) (xs : List D) : (D.tup xs).ren f = .tup (renL f xs) := by rw [D.ren]
@[simp] theorem s_renX (f : Nat → Nat) (C : Addr) : renX f (C, none) = (C, none) := rfl
@[simp] theorem s_alK (p : Nat → Bool) (k : Nat) : (D.loc k).al p = p k := by rw [D.al]
@[simp] theorem s_alN (p : Nat → Bool) : alL p [] = true := by rw [alL]
@[simp] theorem s_alC (p : Nat → Bool) (d : D) (r : List D) : alL p (d :: r) = (d.al p && alL p r) := by rw [alL]
@[simp] theorem s_alI (p : Nat → Bool) (k : Int) : (D.int k).al p = true := by simp only [D.al]
@[simp] theorem s_alB (p : Nat → Bool) (k : Bool) : (D.bl k).al p = true := by simp only [D.al]
@[simp] theorem s_alS (p : Nat → Bool) (k : Str) : (D.str k).al p = true := by simp only [D.al]
@[simp] theorem s_al0 (p : Nat → Bool) : D.non.al p = true := by simp only [D.al]
@[simp] theorem s_alT (p : Nat → Bool) (xs : List D) : (D.tup xs).al p = alL p xs := by rw [D.al]
/-- a call of a def that may change its things: those at ks -/
theorem callM_of {P : PD} {xc : XC} {rho : Rho} {ds M : List D} {Phi : D → List D → Prop} (ks : List Nat) (h1 : ks.Nodup) (h2 : ∀ k, k ∈ ks → k < M.length) (h3 : alL (inKs ks) ds = true) (h4 : ∀ k, k ∈ ks → (M.getD k .non).al (inKs ks) = true)
    (h : P (renL (fwd ks) ds) (frameM M ks) ⟨fun d Mc => Phi (d.ren (bck ks M.length)) (mergeM M ks Mc), fun x Mc => xc (renX (bck ks M.length) x) rho (mergeM M ks Mc)⟩) : callM P xc rho ds M Phi := ⟨ks, h1, h2, h3, h4, h⟩
/-- a loop by its invariant -/
theorem forGo_inv {g : TDg} {wb : TDs} {gd : List D → Prop} {xc : XC} {F : Fin} {items : List D} (I : Nat → Rho → List D → Prop) (hgd : ∀ i rho M, I i rho M → gd M)
    (hs : ∀ i d rho M (N : Rho → List D → Prop), items[i]? = some d → I i rho M → (∀ r M', I (i + 1) r M' → N r M') → g d rho M fun rho1 M1 => wb xc { nx := N, rt := F.rt, ct := N, bk := F.nx } rho1 M1)
    (hd : ∀ rho M, I items.length rho M → F.nx rho M) {rho : Rho} {M : List D} (h0 : I 0 rho M) : forGo g wb gd xc F items rho M := by
  have all : ∀ (l : List D) (i : Nat) (rho : Rho) (M : List D), items.drop i = l → i ≤ items.length → I i rho M → forGo g wb gd xc F l rho M := by
    intro l
    induction l with
    | nil =>
      intro i rho M e hi q
      have hl : items.length ≤ i := List.drop_eq_nil_iff.mp e
      have : i = items.length := by omega
      subst this
      exact ⟨hgd _ _ _ q, hd _ _ q⟩
    | cons d ds ih =>
      intro i rho M e hi q
      obtain ⟨e1, e2⟩ := drop_some e
      have hl : i < items.length := (List.getElem?_eq_some_iff.mp e1).1
      exact ⟨hgd _ _ _ q, hs i d rho M _ e1 q fun r M' z => ih (i + 1) r M' e2 hl z⟩
  exact all items 0 rho M rfl (Nat.zero_le _) h0
/-- a comprehension that leaves the store alone: each x gives f x, or nothing -/
theorem lcGo_fm {α : Type} {g : TDg} {wt : TDt} {we : TDe} {gd : List D → Prop} {rho : Rho} {Phi : D → List D → Prop} {M : List D} {e : α → D} (f : α → Option D) (hgd : gd M) : ∀ (xs : List α)
    (h : ∀ x, x ∈ xs → ∀ (N : List D → List D → Prop) (acc : List D), N (acc ++ (f x).toList) M → g (e x) rho M fun rho1 M1 => wt xc0 rho1 M1 fun b M2 => if b = true then we xc0 rho1 M2 fun y M3 => N (acc ++ [y]) M3 else N acc M2)
    (acc : List D) (hp : Phi (.lst (acc ++ xs.filterMap f)) M), lcGo g wt we gd rho Phi (xs.map e) acc M
  | [], _, acc, hp => ⟨hgd, by rw [List.filterMap_nil, List.append_nil] at hp; exact hp⟩
  | x :: xs, h, acc, hp => by
    rw [List.map_cons, s_lcC]
    refine ⟨hgd, h x List.mem_cons_self (fun a M' => lcGo g wt we gd rho Phi (xs.map e) a M') acc (lcGo_fm f hgd xs (fun y hy => h y (List.mem_cons_of_mem _ hy)) _ ?_)⟩
    have e1 : acc ++ (f x).toList ++ xs.filterMap f = acc ++ (x :: xs).filterMap f := by
      rw [List.append_assoc, List.filterMap_cons]
      cases f x <;> rfl
    rw [e1]
    exact hp
/-- .. each one value -/
theorem lcGo_map {α : Type} {g : TDg} {we : TDe} {gd : List D → Prop} {rho : Rho} {Phi : D → List D → Prop} {M : List D} {e : α → D} (f : α → D) (hgd : gd M) (xs : List α)
    (h : ∀ x, x ∈ xs → ∀ (N : D → List D → Prop), N (f x) M → g (e x) rho M fun rho1 M1 => we xc0 rho1 M1 N) (hp : Phi (.lst (xs.map f)) M) : lcGo g wYes we gd rho Phi (xs.map e) [] M := by
  refine lcGo_fm (fun x => some (f x)) hgd xs (fun x hx N acc q => ?_) [] ?_
  · have := h x hx (fun y M3 => N (acc ++ [y]) M3) q
    simpa using this
  · have e1 : xs.filterMap (fun x => some (f x)) = xs.map f := by rw [← List.filterMap_eq_map]; rfl
    rw [List.nil_append, e1]
    exact hp
end DL

/-! ==, places in a list -/
namespace DL
open PySem L2
/-- plain data, n deep, without texts -/
def pyN : Nat → D → Prop
  | _, .non => True
  | _, .bl _ => True
  | _, .int _ => True
  | n + 1, .tup xs => ∀ x, x ∈ xs → pyN n x
  | n + 1, .lst xs => ∀ x, x ∈ xs → pyN n x
  | _, _ => False
theorem pyL_of {n : Nat} (ih : ∀ d, pyN n d → ∃ p, d.py = some p ∧ p.canLay0 = true ∧ p.depth ≤ n) : ∀ xs : List D, (∀ x, x ∈ xs → pyN n x) → ∃ ps, pyL xs = some ps ∧ PyData.canLayAll0 ps = true ∧ PyData.depthAll ps ≤ n ∧ ps.length = xs.length
  | [], _ => ⟨[], by rw [pyL], rfl, by simp [PyData.depthAll], rfl⟩
  | x :: xs, h => by
    obtain ⟨p, e1, c1, d1⟩ := ih x (h x List.mem_cons_self)
    obtain ⟨ps, e2, c2, d2, l2⟩ := pyL_of ih xs fun y hy => h y (List.mem_cons_of_mem _ hy)
    refine ⟨p :: ps, by rw [pyL, e1, e2], by rw [PyData.canLayAll0, c1, c2]; rfl, ?_, by rw [List.length_cons, List.length_cons, l2]⟩
    rw [PyData.depthAll]
    omega
theorem py_of : ∀ (n : Nat) (d : D), pyN n d → ∃ p, d.py = some p ∧ p.canLay0 = true ∧ p.depth ≤ n
  | n, .non, _ => ⟨.none, by rw [D.py], rfl, by simp [PyData.depth]⟩
  | n, .bl b, _ => ⟨.bool b, by rw [D.py], rfl, by simp [PyData.depth]⟩
  | n, .int i, _ => ⟨.int i, by rw [D.py], rfl, by simp [PyData.depth]⟩
  | n + 1, .tup xs, h => by
    obtain ⟨ps, e, c, d, _⟩ := pyL_of (py_of n) xs h
    exact ⟨.tuple ps, by rw [D.py, e], by rw [PyData.canLay0]; exact c, by rw [PyData.depth]; omega⟩
  | n + 1, .lst xs, h => by
    obtain ⟨ps, e, c, d, _⟩ := pyL_of (py_of n) xs h
    exact ⟨.list ps, by rw [D.py, e], by rw [PyData.canLay0]; exact c, by rw [PyData.depth]; omega⟩
  | 0, .tup _, h => h.elim
  | 0, .lst _, h => h.elim
  | 0, .tpx _, h => h.elim
  | _ + 1, .tpx _, h => h.elim
  | 0, .str _, h => h.elim
  | _ + 1, .str _, h => h.elim
  | 0, .ins _ _, h => h.elim
  | _ + 1, .ins _ _, h => h.elim
  | 0, .dct _, h => h.elim
  | _ + 1, .dct _, h => h.elim
  | 0, .loc _, h => h.elim
  | _ + 1, .loc _, h => h.elim
  | 0, .adr _, h => h.elim
  | _ + 1, .adr _, h => h.elim
  | 0, .ty _, h => h.elim
  | _ + 1, .ty _, h => h.elim
theorem shaped_of {p : PyData} {n : Nat} (c : p.canLay0 = true) (d : p.depth ≤ n) (h : n ≤ 64) : SeqAt.shaped p = true := by
  unfold SeqAt.shaped
  rw [c, decide_eq_true (Nat.le_trans d h)]
  rfl
theorem pyOf_in {M : List D} {d : D} {n : Nat} (h : pyN n d) : pyOf M d = d.py := by
  cases d <;> first | rfl | (cases n <;> exact h.elim)
/-- alike things are equal -/
theorem oEq_same {M : List D} {d : D} {Psi : D → Prop} (n : Nat) (h : pyN n d) (hn : n ≤ 64) (q : Psi (.bl true)) : oEq M d d Psi := by
  obtain ⟨p, e, c, dd⟩ := py_of n d h
  have s := shaped_of c dd hn
  unfold oEq
  rw [pyOf_in h, e]
  refine ⟨s, s, ?_⟩
  rw [SeqAt.eqv_refl p c]
  exact q
@[simp] theorem s_eqI (M : List D) (i j : Int) (Psi : D → Prop) : oEq M (.int i) (.int j) Psi = Psi (.bl (decide (i = j))) := by
  have e : pyOf M (.int i) = some (.int i) := by show D.py _ = _; rw [D.py]
  have e2 : pyOf M (.int j) = some (.int j) := by show D.py _ = _; rw [D.py]
  unfold oEq
  rw [e, e2]
  have h : ∀ k : Int, SeqAt.shaped (.int k) = true := fun k => rfl
  simp only [h, true_and, PyData.eqv]
  rfl
@[simp] theorem s_neI (M : List D) (i j : Int) (Psi : D → Prop) : oNe M (.int i) (.int j) Psi = Psi (.bl (!decide (i = j))) := by
  have e : pyOf M (.int i) = some (.int i) := by show D.py _ = _; rw [D.py]
  have e2 : pyOf M (.int j) = some (.int j) := by show D.py _ = _; rw [D.py]
  unfold oNe
  rw [e, e2]
  have h : ∀ k : Int, SeqAt.shaped (.int k) = true := fun k => rfl
  simp only [h, true_and, PyData.eqv]
  rfl
@[simp] theorem s_eqBB (M : List D) (i j : Bool) (Psi : D → Prop) : oEq M (.bl i) (.bl j) Psi = Psi (.bl (i == j)) := by
  have e : ∀ b, pyOf M (.bl b) = some (.bool b) := fun b => by show D.py _ = _; rw [D.py]
  unfold oEq
  rw [e, e]
  have h : ∀ k : Bool, SeqAt.shaped (.bool k) = true := fun k => rfl
  simp only [h, true_and, PyData.eqv]
@[simp] theorem s_neBB (M : List D) (i j : Bool) (Psi : D → Prop) : oNe M (.bl i) (.bl j) Psi = Psi (.bl (!(i == j))) := by
  have e : ∀ b, pyOf M (.bl b) = some (.bool b) := fun b => by show D.py _ = _; rw [D.py]
  unfold oNe
  rw [e, e]
  have h : ∀ k : Bool, SeqAt.shaped (.bool k) = true := fun k => rfl
  simp only [h, true_and, PyData.eqv]
/-- texts as keys of cases -/
theorem s_eqS {M : List D} {i j : Str} {Psi : D → Prop} (hi : SeqAt.shaped (.str i) = true) (hj : SeqAt.shaped (.str j) = true) (q : Psi (.bl (i == j))) : oEq M (.str i) (.str j) Psi := by
  have e : ∀ b, pyOf M (.str b) = some (.str b) := fun b => by show D.py _ = _; rw [D.py]
  unfold oEq
  rw [e, e]
  refine ⟨hi, hj, ?_⟩
  rw [PyData.eqv]
  exact q
/-- a list against [] -/
theorem eq_nil {M : List D} {d : D} {xs : List D} {Psi : D → Prop} (n : Nat) (hd : lstOf M d = some xs) (h : ∀ x, x ∈ xs → pyN n x) (hn : n < 64) (q : Psi (.bl xs.isEmpty)) : oEq M d (.lst []) Psi := by
  obtain ⟨ps, e, c, dd, l⟩ := pyL_of (py_of n) xs h
  have ep : pyOf M d = some (.list ps) := by
    cases d with
    | lst ys =>
      cases hd
      show D.py _ = _
      rw [D.py, e]
    | loc k =>
      unfold lstOf at hd
      simp only at hd
      show (match M[k]? with | some (.lst ds) => D.py (.lst ds) | _ => none) = _
      cases hk : M[k]? with
      | none => rw [hk] at hd; cases hd
      | some u =>
        rw [hk] at hd
        cases u <;> first | (cases hd; done) | skip
        cases hd
        show D.py _ = _
        rw [D.py, e]
    | _ => cases hd
  have e2 : pyOf M (.lst []) = some (.list []) := by show D.py _ = _; rw [D.py, pyL]
  have s : SeqAt.shaped (.list ps) = true := shaped_of (n := n + 1) (by rw [PyData.canLay0]; exact c) (by rw [PyData.depth]; omega) hn
  unfold oEq
  rw [ep, e2]
  refine ⟨s, rfl, ?_⟩
  have ev : PyData.eqv (.list ps) (.list []) = xs.isEmpty := by
    rw [PyData.eqv]
    cases ps <;> cases xs <;> first | rfl | (simp at l)
  rw [ev]
  exact q
theorem ne_nil {M : List D} {d : D} {xs : List D} {Psi : D → Prop} (n : Nat) (hd : lstOf M d = some xs) (h : ∀ x, x ∈ xs → pyN n x) (hn : n < 64) (q : Psi (.bl (!xs.isEmpty))) : oNe M d (.lst []) Psi := by
  have := eq_nil (Psi := fun x => ∀ b, x = .bl b → Psi (.bl (!b))) n hd h hn (fun b e => by cases e; exact q)
  unfold oEq at this
  unfold oNe
  split at this
  · exact ⟨this.1, this.2.1, this.2.2 _ rfl⟩
  · exact this.elim
@[simp] theorem lk_hit {α : Type} (a : Str) (v : α) (r : List (Str × α)) : List.lookup a ((a, v) :: r) = some v := by
  rw [List.lookup_cons, show (a == a) = true from by simp]
theorem lk_miss {α : Type} {a b : Str} (h : (a == b) = false) (v : α) (r : List (Str × α)) : List.lookup a ((b, v) :: r) = List.lookup a r := by
  rw [List.lookup_cons, h]
@[simp] theorem rn_ins (f : Nat → Nat) (C : Addr) (fs : List (Str × D)) : (D.ins C fs).ren f = .ins C (renF f fs) := by rw [D.ren]
@[simp] theorem rn_lst (f : Nat → Nat) (xs : List D) : (D.lst xs).ren f = .lst (renL f xs) := by rw [D.ren]
@[simp] theorem rn_dct (f : Nat → Nat) (xs : List (D × D)) : (D.dct xs).ren f = .dct (renP f xs) := by rw [D.ren]
@[simp] theorem rn_fn (f : Nat → Nat) : renF f [] = [] := by rw [renF]
@[simp] theorem rn_fc (f : Nat → Nat) (x : Str) (d : D) (r : List (Str × D)) : renF f ((x, d) :: r) = (x, d.ren f) :: renF f r := by rw [renF]
@[simp] theorem an_ins (p : Nat → Bool) (C : Addr) (fs : List (Str × D)) : (D.ins C fs).al p = alF p fs := by rw [D.al]
@[simp] theorem an_lst (p : Nat → Bool) (xs : List D) : (D.lst xs).al p = alL p xs := by rw [D.al]
@[simp] theorem an_fn (p : Nat → Bool) : alF p [] = true := by rw [alF]
@[simp] theorem an_fc (p : Nat → Bool) (x : Str) (d : D) (r : List (Str × D)) : alF p ((x, d) :: r) = (d.al p && alF p r) := by rw [alF]
theorem rn_map {α : Type} {e : α → D} (h : ∀ a, (e a).lt 0 = true) (f : Nat → Nat) (xs : List α) : renL f (xs.map e) = xs.map e := renL_id (l_map 0 h xs)
theorem an_map {α : Type} {e : α → D} (h : ∀ a, (e a).lt 0 = true) (p : Nat → Bool) (xs : List α) : alL p (xs.map e) = true := alL_of_lt (l_map 0 h xs)
@[simp] theorem rn_ints (f : Nat → Nat) (xs : List Int) : renL f (xs.map D.int) = xs.map D.int := rn_map (fun _ => rfl) f xs
@[simp] theorem an_ints (p : Nat → Bool) (xs : List Int) : alL p (xs.map D.int) = true := an_map (fun _ => rfl) p xs
@[simp] theorem rn_pDs (f : Nat → Nat) (xs : List (Int × Int)) : renL f (xs.map pD) = xs.map pD := rn_map (l_pD 0) f xs
@[simp] theorem an_pDs (p : Nat → Bool) (xs : List (Int × Int)) : alL p (xs.map pD) = true := an_map (l_pD 0) p xs
@[simp] theorem fr_0 (M : List D) : frameM M [] = [] := rfl
@[simp] theorem fr_c (M : List D) (k : Nat) (ks : List Nat) : frameM M [k] = [(M.getD k .non).ren (fwd [k])] := rfl
@[simp] theorem fr_2 (M : List D) (k l : Nat) : frameM M [k, l] = [(M.getD k .non).ren (fwd [k, l]), (M.getD l .non).ren (fwd [k, l])] := rfl
@[simp] theorem fr_3 (M : List D) (k l m : Nat) : frameM M [k, l, m] = [(M.getD k .non).ren (fwd [k, l, m]), (M.getD l .non).ren (fwd [k, l, m]), (M.getD m .non).ren (fwd [k, l, m])] := rfl
@[simp] theorem mg_0 (M Mc : List D) : mergeM M [] Mc = M ++ renL (bck [] M.length) Mc := by unfold mergeM; simp [setAll]
@[simp] theorem mg_1 (M : List D) (k : Nat) (b : D) : mergeM M [k] [b] = M.set k (b.ren (bck [k] M.length)) := by unfold mergeM; simp [setAll]
@[simp] theorem mg_2 (M : List D) (k l : Nat) (b d : D) : mergeM M [k, l] [b, d] = (M.set k (b.ren (bck [k, l] M.length))).set l (d.ren (bck [k, l] M.length)) := by unfold mergeM; simp [setAll]
@[simp] theorem mg_3 (M : List D) (k l m : Nat) (b d e : D) : mergeM M [k, l, m] [b, d, e] = ((M.set k (b.ren (bck [k, l, m] M.length))).set l (d.ren (bck [k, l, m] M.length))).set m (e.ren (bck [k, l, m] M.length)) := by unfold mergeM; simp [setAll]
@[simp] theorem fw_0 (k : Nat) (ks : List Nat) : fwd (k :: ks) k = 0 := by simp [fwd]
theorem fw_s {k j : Nat} (ks : List Nat) (h : (k == j) = false) : fwd (k :: ks) j = fwd ks j + 1 := by unfold fwd; rw [List.idxOf_cons, h]; rfl
/-- the i-th number of a list, i-th slot's own -/
theorem rng0 (n : Nat) : rngD 0 n = (List.range n).map fun (i : Nat) => D.int (i : Nat) := by unfold rngD; simp
/-! ends -/
theorem retM {n0 : Nat} {F : FinC} {d : D} {M : List D} (h0 : n0 ≤ M.length) (h1 : ltL M.length M = true) (h2 : d.lt M.length = true) (q : F.rt d M) : RetD n0 F d M :=
  ⟨M.length, d, h0, Nat.le_refl _, by rw [List.take_length]; exact h1, .val h2, by rw [List.take_length]; exact q⟩
/-- what was made besides is dropped -/
theorem retT {n0 : Nat} {F : FinC} {d : D} {M : List D} (h0 : n0 ≤ M.length) (h1 : ltL n0 (M.take n0) = true) (h2 : d.lt n0 = true) (q : F.rt d (M.take n0)) : RetD n0 F d M := ⟨n0, d, Nat.le_refl _, h0, h1, .val h2, q⟩
theorem retTc {n0 k : Nat} {F : FinC} {c : D} {M : List D} (e : M[k]? = some c) (hk : n0 ≤ k) (h1 : ltL n0 (M.take n0) = true) (h2 : c.lt n0 = true) (q : F.rt c (M.take n0)) : RetD n0 F (.loc k) M :=
  ⟨n0, c, Nat.le_refl _, Nat.le_trans hk (Nat.le_of_lt (List.getElem?_eq_some_iff.mp e).1), h1, .con e hk h2, q⟩
theorem raiT {n0 : Nat} {F : FinC} {C : Addr} {M : List D} (h0 : n0 ≤ M.length) (h1 : ltL n0 (M.take n0) = true) (q : F.xc (C, none) (M.take n0)) : RaiD n0 F (C, none) M := ⟨n0, Nat.le_refl _, h0, h1, trivial, q⟩
/-! places -/
theorem at_nat {α : Type} (xs : List α) (n : Nat) : atI xs (n : Int) = xs[n]? := by
  unfold atI ixN
  rw [if_pos (Int.natCast_nonneg n)]
  by_cases h : (n : Int) < (xs.length : Int)
  · rw [if_pos h]; rfl
  · rw [if_neg h, List.getElem?_eq_none (by omega)]; rfl
@[simp] theorem at_0 {α : Type} (xs : List α) : atI xs 0 = xs[0]? := at_nat xs 0
@[simp] theorem at_1 {α : Type} (xs : List α) : atI xs 1 = xs[1]? := at_nat xs 1
@[simp] theorem at_2 {α : Type} (xs : List α) : atI xs 2 = xs[2]? := at_nat xs 2
@[simp] theorem at_3 {α : Type} (xs : List α) : atI xs 3 = xs[3]? := at_nat xs 3
@[simp] theorem at_4 {α : Type} (xs : List α) : atI xs 4 = xs[4]? := at_nat xs 4
@[simp] theorem at_5 {α : Type} (xs : List α) : atI xs 5 = xs[5]? := at_nat xs 5
@[simp] theorem at_m1 {α : Type} (xs : List α) : atI xs (-1) = xs.getLast? := by
  unfold atI ixN
  rw [if_neg (by decide)]
  cases xs with
  | nil => rfl
  | cons x xs =>
    rw [if_pos (by simp only [List.length_cons]; omega), List.getLast?_eq_getElem?]
    have e : ((-1 : Int) + ((x :: xs).length : Nat)).toNat = (x :: xs).length - 1 := by omega
    rw [e]
    rfl
/-- a place among few: whatever stands there -/
theorem at_any {ds : List D} {i : Int} {Psi : D → Prop} (h0 : 0 ≤ i) (h1 : i < ds.length) (h : ∀ d, d ∈ ds → Psi d) : optP (atI ds i) Psi := by
  obtain ⟨n, rfl⟩ := Int.eq_ofNat_of_zero_le h0
  have hn : n < ds.length := by omega
  rw [at_nat, List.getElem?_eq_getElem hn]
  exact h _ (List.getElem_mem hn)
theorem ix_nat {n k : Nat} (h : k < n) : ixN n (k : Int) = some k := by
  unfold ixN
  rw [if_pos (Int.natCast_nonneg k), if_pos (by omega)]
  rfl
/-- sorted pairs are one list -/
theorem lexB_total {p q : Int × Int} (h1 : SrtO.lexB p q = false) (h2 : SrtO.lexB q p = false) : p = q := by
  have a : ¬ SrtO.lexB p q = true := by rw [h1]; exact Bool.false_ne_true
  have b : ¬ SrtO.lexB q p = true := by rw [h2]; exact Bool.false_ne_true
  rw [SrtO.lexB_iff] at a b
  refine Prod.ext ?_ ?_ <;> omega
theorem srt_one : ∀ {l m : List (Int × Int)}, l.Perm m → l.Pairwise (fun p q => SrtO.lexB q p = false) → m.Pairwise (fun p q => SrtO.lexB q p = false) → l = m
  | [], m, h, _, _ => (List.Perm.eq_nil h.symm).symm
  | p :: l, [], h, _, _ => List.Perm.eq_nil h
  | p :: l, q :: m, h, hl, hm => by
    have e : p = q := by
      have h1 : p ∈ q :: m := h.subset List.mem_cons_self
      have h2 : q ∈ p :: l := h.symm.subset List.mem_cons_self
      rcases List.mem_cons.mp h1 with e | h1
      · exact e
      · rcases List.mem_cons.mp h2 with e | h2
        · exact e.symm
        · exact lexB_total ((List.pairwise_cons.mp hm).1 p h1) ((List.pairwise_cons.mp hl).1 q h2)
    subst e
    rw [srt_one h.cons_inv (List.pairwise_cons.mp hl).2 (List.pairwise_cons.mp hm).2]
end DL

namespace DL
open PySem L2
theorem law_in {K : PySem.W.Frag} {f : FP} (H : Hp) (a : Addr) (ns : List Int) (hl : ns.length ≤ sizeLine) (hS : SqL K H a (ns.map V.int)) (hf : f [.lst (ns.map D.int)] (fun d => d = .bl true) (fun _ => False)) : spP K [] f [.ref a] H (fun v _ => v = .bl true) fun _ _ _ => False := by
  refine ⟨fun _ => False, ⟨H, fun _ => 0, []⟩, [.lst (ns.map D.int)], ⟨fun d _ => d = .bl true, fun _ _ => False⟩, rfl, ?_, ?_, ⟨rfl, hf⟩, ?_, ?_⟩
  · refine ⟨?_, ?_, ?_, ?_, ?_⟩
    · intro k d h
      cases h
    · intro i j h
      cases h
    · intro k h
      cases h
    · intro b h
      exact h.elim
    · intro p h
      cases h
  · refine .cons ?_ .nil
    refine .lst (vs := ns.map V.int) ?_ (by rw [List.length_map]; exact hl) (Rps.of_ints ns)
    rcases hS with h | h
    · refine .inl ⟨?_, h⟩
      rintro (h | ⟨k, hk, _⟩)
      · exact h
      · cases hk
    · exact .inr h
  · intro d S' v h _ _ r
    rw [show d = .bl true from h] at r
    exact rp_bl r
  · intro x S' cls dx h
    exact h.elim
/-- the end of a law whose def promises a plain fact -/
theorem walkF {l : PySem.W.OpenLaw} {n k : Nat} {q : Program} {loose : List Str} {XP : (Str → Option Value) → Heap → Prop} {YP : World → Heap → Prop} {d : DefRec} {K : Params → PySem.W.Frag} {x : Str} {f : FP}
    (hn : l.most = some n) (h2 : n ≤ sizeLine) (hdf : d.params.defaults = []) (hr : Room k callerA) (hY : ∀ (w : World) (h : Heap), YP w h → (K w.params).In h)
    (F : ∀ (w : World) (mg : Str → Option Value) (fa : Addr) (h : Heap), (K w.params).In h → h.Ns mainGlobals mg → XP mg h → mg d.name = some (.ref fa) →
      ∃ fd : FuncData, (∀ (s : Shared) (u : Value), BindsTo s fd ⟨[u], []⟩ [(x, u)]) ∧ ∀ base : Heap, (K w.params).In base → base.Ns mainGlobals mg → FnOk l.prog w (K w.params) mg base (L2.CX l.prog w) k fa fd [x] (spP (K w.params) [] f))
    (hf : ∀ ns : List Int, ns.length ≤ n → f [.lst (ns.map D.int)] (fun d => d = .bl true) (fun _ => False)) :
    PySem.W.WalkO q loose XP YP l.row.toRowW d [] (fun g vs => PySem.call g vs) :=
  walkX hn h2 hdf hr hY F fun _ H a ns hl _ hS => law_in H a ns (Nat.le_trans hl h2) hS (hf ns hl)
end DL

/-! more words -/
namespace DL
open PySem L2
section
variable {X : Cx} {T : TabT} {W : WX} {a b e : Expr} {wa wb we : TDe} {pos p2 : Pos}
/-- xs[i:j], a new list that may change -/
def wSlN (wa : TDe) (wl wh : TDo) : TDe := fun xc rho M Phi => wa xc rho M fun d M1 => wl xc rho M1 fun lo M2 => wh xc rho M2 fun hi M3 => match lstOf M3 d with
  | some ds => Phi (.lst (cutD ds lo hi)) M3
  | none => False
theorem en_sl {lo hi : Option Expr} {wl wh : TDo} (ha : ED X T W a wa) (hl : EO X T W lo wl) (hh : EO X T W hi wh) : EN X T W (.Subscript a (.Slice lo hi none p2) pos) (wSlN wa wl wh) := by
  refine ⟨pe_of (pe_slice sl_list ha.run hl.run hh.run) ?_⟩
  rintro σ H Q ⟨G, S, rho, xc, Phi, rfl, rel, ge, w, fin⟩
  refine ⟨G, S, rho, xc, _, rfl, rel, ge, w, fun d S1 x w1 s1 rel1 r1 => ?_⟩
  refine ⟨G, S1, rho, xc, _, rfl, rel1, ge, w1, fun lo S2 w2 s2 rel2 => ?_⟩
  refine ⟨G, S2, rho, xc, _, rfl, rel2, ge, w2, fun hi S3 w3 s3 rel3 => ?_⟩
  cases h : lstOf S3.M d with
  | none => rw [h] at w3; exact w3.elim
  | some ds =>
    rw [h] at w3
    obtain ⟨p, vs, rfl, sq, rs, hlen⟩ := r_lst rel3.ok ((s2.trans s3).rp r1) h
    exact ⟨p, vs, rfl, sq, fun q hq => fin _ S3 q _ w3 ((s1.trans s2).trans s3) rel3 hq ⟨_, rfl, Nat.le_trans (cutD_len ds lo hi) hlen, rs.cut lo hi⟩⟩
def k3_wSlN (Phi : D → List D → Prop) (d : D) (lo : Option Int) : Option Int → List D → Prop := fun hi M3 => match lstOf M3 d with
  | some ds => Phi (.lst (cutD ds lo hi)) M3
  | none => False
@[simp ↓] theorem s_k3_wSlN (Phi : D → List D → Prop) (d : D) (lo hi : Option Int) (M3 : List D) : k3_wSlN Phi d lo hi M3 = (match lstOf M3 d with
  | some ds => Phi (.lst (cutD ds lo hi)) M3
  | none => False) := propext Iff.rfl
def k2_wSlN (wh : TDo) (xc : XC) (rho : Rho) (Phi : D → List D → Prop) (d : D) : Option Int → List D → Prop := fun lo M2 => wh xc rho M2 (k3_wSlN Phi d lo)
@[simp ↓] theorem s_k2_wSlN (wh : TDo) (xc : XC) (rho : Rho) (Phi : D → List D → Prop) (d : D) (lo : Option Int) (M2 : List D) : k2_wSlN wh xc rho Phi d lo M2 = (wh xc rho M2 (k3_wSlN Phi d lo)) := propext Iff.rfl
def k1_wSlN (wl wh : TDo) (xc : XC) (rho : Rho) (Phi : D → List D → Prop) : D → List D → Prop := fun d M1 => wl xc rho M1 (k2_wSlN wh xc rho Phi d)
@[simp ↓] theorem s_k1_wSlN (wl wh : TDo) (xc : XC) (rho : Rho) (Phi : D → List D → Prop) (d : D) (M1 : List D) : k1_wSlN wl wh xc rho Phi d M1 = (wl xc rho M1 (k2_wSlN wh xc rho Phi d)) := propext Iff.rfl
@[simp ↓] theorem s_wSlN (wa : TDe) (wl wh : TDo) (xc : XC) (rho : Rho) (M : List D) (Phi : (D → List D → Prop)) : wSlN wa wl wh xc rho M Phi = (wa xc rho M (k1_wSlN wl wh xc rho Phi)) := propext Iff.rfl
end
end DL

/-! sorted(xs, key=f): f any call that keeps an invariant -/
namespace SKY
open PySem PySem.Calls PyProof.Rows PySem.W
section
variable {prog : Program} {w : World} {A : Around} {E : Value → Shared → Prop} {s : Shared} {a kS : Addr} {b : Bool} {vs : List Value} {e1 : Nat} {P : PySem.Fin → Shared → Prop} {kz : List PyData} {f : Value}
def goneH (h : Heap) (k : Addr) : Heap := { h with objs := h.objs.setIfInBounds k { cls := .none, data := .freed } }
theorem gone_k (h : Heap) (k : Addr) : (goneH h k).get? k = none := by
  unfold goneH Heap.get?
  by_cases hk : k < h.objs.size
  · simp [Array.getElem?_setIfInBounds, hk]
  · rw [Array.getElem?_eq_none (by simpa using hk)]
theorem gone_ne {h : Heap} {k c : Addr} (n : c ≠ k) : (goneH h k).get? c = h.get? c := by
  unfold goneH Heap.get?
  rw [Array.getElem?_setIfInBounds_ne (Ne.symm n)]
/-- the keys are made one behind another, then the items sorted -/
theorem rest (I : Nat → List Value → Shared → Prop) (hlen : kz.length = vs.length) (hZ : vs.length ≤ sizeLine) (hal : AllAlike kz) (hsk : Sortable kz) (hu : ∀ d, d ∈ kz → A.units + d.depth < cLine) (hka : kS ≠ a) (h0 : I 0 [] s)
    (turn : ∀ i v ks s', vs[i]? = some v → ks.length = i → I i ks s' → wpAny (model prog w) A (call f [v]) (fun u s'' => ∃ e, s''.heap.get? kS = some (seqObj "list" ks.toArray e) ∧ I (i + 1) (ks ++ [u]) { s'' with heap := s''.heap.update kS (Obj.mapSeq (·.push u)) }) (fun _ _ => False) s')
    (done : ∀ ks s', ks.length = vs.length → I vs.length ks s' → (∃ e, s'.heap.get? kS = some (seqObj "list" ks.toArray e)) ∧ s'.heap.get? a = some (seqObj "list" #[] e1) ∧ EachIs (fun v k => ∃ as, Reads s'.heap v k as) ks kz ∧
      ∀ h' tk out c, (∀ x o, x ≠ a → x ≠ kS → s'.heap.get? x = some o → h'.get? x = some o) → h'.get? a = some (seqObj "list" (List.toArray out) c) → KeyedOut b kz vs out → P (.done (.ret .none)) { s' with heap := h', toks := tk }) :
    wpAny (model prog w) A (ksk_rest a f b vs.toArray e1 (.ref kS)) P E s := by
  unfold ksk_rest
  refine wpAny_bind (wpAny_rule ?_)
  rw [List.forIn_toArray]
  refine wpAny_bind (ksk_fold (fun i s' => ∃ ks : List Value, ks.length = i ∧ I i ks s') vs 0 s ⟨[], rfl, h0⟩ ?A1 ?A2)
  case A1 =>
    rintro j x s' hx ⟨ks, hl, hI⟩
    simp only [Nat.zero_add] at hl hI ⊢
    have hj : j < vs.length := (List.getElem?_eq_some_iff.mp hx).1
    refine wpAny_bind (wpAny_attempt (wpAny_mono (turn j x ks s' hx hl hI) (fun u s2 q => ?_) fun _ _ z => z.elim))
    obtain ⟨e, hk, hI2⟩ := q
    dsimp only
    refine wpAny_bind (listUpdate_at hk rfl ?_ (by rw [List.size_toArray]; omega) (by rw [Array.size_push, List.size_toArray]; omega))
    exact wpAny_pure ⟨rfl, ks ++ [u], by simp [hl], hI2⟩
  case A2 =>
    rintro s' ⟨ks, hl, hI⟩
    rw [Nat.zero_add] at hl hI
    obtain ⟨⟨e, hk⟩, ha, hR, hq⟩ := done ks s' hl hI
    refine wpAny_bind (listItems_at hk rfl ?_)
    have hR' : EachIs (fun v k => ∃ as, Reads s'.heap v k as) (ks.toArray).toList kz := by simpa using hR
    refine keyH_end (κ := dataKind s'.heap kz) (h₁ := goneH s'.heap kS) (fun x o hx q => ?_) (gone_k _ _) hk ha hka (SortsAt.data hR' hal hsk hu) (by rw [List.size_toArray]; exact hl) hZ fun h3 tk3 c k3 n3 => ?_
    · by_cases hc : x = kS
      · rw [hc, gone_k] at q; cases q
      · rwa [gone_ne hc] at q
    · exact hq h3 tk3 _ c (fun x o hx hc q => k3 x o hx (by rw [gone_ne hc]; exact q)) n3 ⟨s'.heap, _, hal, rfl, hR'⟩
/-- sorted(xs, key=f), xs a list or a tuple at l -/
theorem sorted_by {T : String} {o : Obj} {n : Nat} {l : Addr} {kw : List (Str × Value)} {Q : Value → Shared → Prop} (hT : T = "list" ∨ T = "tuple") (ho : s.heap.get? l = some o) (hc : o.cls = .type T) (hd : o.data = .seq vs.toArray n)
    (hZ : vs.length ≤ sizeLine) (ha1 : argsOk "sorted" ⟨[.ref l], kw⟩) (ha2 : ∀ x, argsOk "list.sort" ⟨[.ref x], kw⟩) (ht : ∀ x, Builtin.«list.sort» ⟨[.ref x], kw⟩ = ksk_tree x f b)
    (h : ∀ (h0 h1 : Heap) (a kS : Addr) (e1 : Nat), (∀ x o, s.heap.get? x = some o → h0.get? x = some o) → (∀ x o, h0.get? x = some o → h1.get? x = some o) → h0.objs.size ≤ a → h0.objs.size ≤ kS → kS ≠ a → h1.get? a = some (seqObj "list" #[] e1) → h1.get? kS = some (seqObj "list" #[] 0) →
      wpAny (model prog w) A.in1.in1 (ksk_rest a f b vs.toArray e1 (.ref kS)) (fun fl s' => fl = .done (.ret .none) ∧ Q (.ref a) s') E { s with heap := h1 }) :
    wpAny (model prog w) A (call (.builtin "sorted") [.ref l] kw) Q E s := by
  refine call_function_entry_kw kind_sorted plain_sorted entry_sorted ha1 ?_
  unfold Builtin.«sorted»
  refine wpAny_bind (m := checkCount "sorted" 1 1 _) (wpAny_pure ?_)
  refine wpAny_bind (wpAny_collect_seq l hT ho hc hd (fun h0 k1 => ?_) (by rw [List.size_toArray]; exact hZ))
  refine wpAny_bind (wpAny_newList ?_ (by simpa using hZ))
  have g1 : (h0.push (seqObj "list" vs.toArray 0)).get? h0.objs.size = some (seqObj "list" vs.toArray 0) := Heap.get?_push_size _ rfl
  have k2 : ∀ x o, h0.get? x = some o → (h0.push (seqObj "list" vs.toArray 0)).get? x = some o := fun x o q => Heap.get?_push_of_some _ q
  have nx : ∀ x o, h0.get? x = some o → x ≠ h0.objs.size := fun x o q => Nat.ne_of_lt (Heap.lt_size q)
  have sz : (h0.push (seqObj "list" vs.toArray 0)).objs.size = h0.objs.size + 1 := size_push' _ _
  refine wpAny_bind (wpAny_holding (wpAny_call_entry_kw slot_list_sort ⟨_, g1, rfl⟩ entry_list_sort ?A1 (ha2 _)))
  case A1 =>
    rw [ht]
    unfold ksk_tree
    have sz3 : (((h0.push (seqObj "list" vs.toArray 0)).update h0.objs.size (Obj.mapSeq fun _ => #[])).push (seqObj "tuple" vs.toArray 0)).objs.size = h0.objs.size + 2 := by
      rw [size_push', Heap.size_update, sz]
    obtain ⟨e1, g2⟩ : ∃ e1, ((h0.push (seqObj "list" vs.toArray 0)).update h0.objs.size (Obj.mapSeq fun _ => #[])).get? h0.objs.size = some (seqObj "list" #[] e1) := ⟨_, get?_update_seq g1 (fun _ => #[])⟩
    refine wpAny_bind (listItems_at g1 rfl ?_)
    refine wpAny_bind (listUpdate_at g1 rfl ?_ (by rw [List.size_toArray]; exact hZ) (Nat.zero_le _))
    refine wpAny_bind (seqEpoch_at g2 rfl ?_)
    refine wpAny_bind (wpAny_newTuple ?_ (by show vs.length ≤ _; exact hZ))
    refine wpAny_bind (wpAny_newList ?_ (Nat.zero_le _))
    refine wpAny_holding ?_
    refine wpAny_mono (h h0 _ h0.objs.size _ e1 k1 (fun x o q => ?_) (Nat.le_refl _) ?_ ?_ (Heap.get?_push_of_some _ (Heap.get?_push_of_some _ g2)) (Heap.get?_push_size _ rfl)) (fun fl s' q => ?_) (fun _ _ e => e)
    · refine Heap.get?_push_of_some _ (Heap.get?_push_of_some _ ?_)
      rw [Heap.get?_update_ne _ _ _ _ (nx x o q)]
      exact k2 x o q
    · show h0.objs.size ≤ (((h0.push (seqObj "list" vs.toArray 0)).update h0.objs.size (Obj.mapSeq fun _ => #[])).push (seqObj "tuple" vs.toArray 0)).objs.size
      rw [sz3]; omega
    · show (((h0.push (seqObj "list" vs.toArray 0)).update h0.objs.size (Obj.mapSeq fun _ => #[])).push (seqObj "tuple" vs.toArray 0)).objs.size ≠ h0.objs.size
      rw [sz3]; omega
    · obtain ⟨rfl, hq⟩ := q
      exact ⟨_, rfl, wpAny_pure ⟨_, rfl, hq⟩⟩
end
end SKY

/-! a lambda of one parameter, called within a built-in -/
namespace LamY
open PySem PySem.Spec PyProof.Rows L2 LamX
structure LamP (sc scope : Scope) (a : Str) : Prop where
  kind : scope.kind = .function
  co : scope.isCoroutine = false
  gen : scope.isGenerator = false
  par : scope.names.lookup a = some .local
  own : ∀ y ∈ scope.names, y.2 ≠ .cell ∧ (y.2 = .local → y.1 = a)
  free : ∀ y ∈ scope.names, y.2 = .free → sc.names.lookup y.1 = some .cell ∨ sc.names.lookup y.1 = some .free
def lamPB (sc scope : Scope) (a : Str) : Bool :=
  decide (scope.kind = .function) && !scope.isCoroutine && !scope.isGenerator && decide (scope.names.lookup a = some .local) && scope.names.all fun y => !decide (y.2 = .cell) && (!decide (y.2 = .local) || y.1 == a) && (!decide (y.2 = .free) || decide (sc.names.lookup y.1 = some .cell) || decide (sc.names.lookup y.1 = some .free))
theorem lamP_by {sc scope : Scope} {a : Str} (h : lamPB sc scope a = true) : LamP sc scope a := by
  unfold lamPB at h
  simp only [Bool.and_eq_true, Bool.or_eq_true, Bool.not_eq_true', decide_eq_true_eq, decide_eq_false_iff_not, List.all_eq_true] at h
  obtain ⟨⟨⟨⟨h1, h2⟩, h3⟩, h5⟩, h4⟩ := h
  refine ⟨h1, h2, h3, h5, fun y hy => ⟨(h4 y hy).1.1, fun e => ?_⟩, fun y hy e => ?_⟩
  · rcases (h4 y hy).1.2 with z | z
    · exact absurd e z
    · exact eq_of_beq z
  · rcases (h4 y hy).2 with (z | z) | z
    · exact absurd e z
    · exact .inl z
    · exact .inr z
theorem LamP.has {X : Cx} {scope : Scope} {a : Str} (L : LamP X.env.scope scope a) (ok : X.Ok) : ∀ y ∈ scope.names, y.2 = .free → ∃ c, X.env.cells.lookup y.1 = some c := fun y hy e => by
  rcases L.free y hy e with k | k
  · exact ok.has _ (.inl k)
  · exact ok.has _ (.inr k)
abbrev E0 : XK := fun _ _ _ => False
section
variable {X : Cx} {pins : List (Addr × Obj)} {σ : L2.St} {H : Hp} {s : Shared}
theorem start1 {A : Around} {scope : Scope} {f c' : Addr} {h₁ : Heap} {tk i : Nat} {a : Str} {v : V} {u : Value} (I : Inv X pins σ H s) (L : LamP X.env.scope scope a) (e0 : Env0 X.prog X.w X.K X.mg X.base A X.stack s H) (hd : A.handled = none)
    (hN : X.N.Nodup) (hi : X.N[i]? = some a) (r : RelV v u) (hns : h₁.Ns s.heap.objs.size fun y => [(a, u)].reverse.lookup y) (kp : ∀ b o, s.heap.get? b = some o → h₁.get? b = some o) :
    Inv (lamCx X A X.stack s H E0 scope f c') [] (σ.set i (some v)) H { s with heap := h₁, toks := tk } := by
  have hfree := L.has I.ok
  have cm : ∀ {y c}, (cloFrom X.env.cells scope.names []).lookup y = some c → X.env.cells.lookup y = some c := fun {y c} e => by
    rcases cloFrom_mem (PySem.mem_of_lookup e) with hm | ⟨h1, h2⟩
    · cases hm
    · obtain ⟨c1, hc⟩ := hfree _ h1 rfl
      have hc : X.env.cells.lookup y = some c1 := hc
      obtain rfl : c = c1 := by rw [h2, hc] <;> rfl
      exact hc
  have look : ∀ {y}, scope.names.lookup y = some .free → ∃ c, (cloFrom X.env.cells scope.names []).lookup y = some c := fun {y} hl =>
    mem_lookup (cloFrom_has (cells := X.env.cells) (acc := []) (PySem.mem_of_lookup hl : (y, NameKind.free) ∈ scope.names))
  have cellK : ∀ {c : Addr} {v : Option Value}, s.heap.IsCell c v → h₁.IsCell c v := fun {c v} ⟨o, ho, hd⟩ => ⟨o, kp _ _ ho, hd⟩
  have hil : i < σ.length := by rw [I.len]; exact (List.getElem?_eq_some_iff.mp hi).1
  have noA : ∀ b : Addr, b ∉ (lamCx X A X.stack s H E0 scope f c').ex := fun b z => absurd (show b ∈ ([] : List Addr) from z) (by simp)
  refine ⟨⟨e0.mod, L.kind, rfl, rfl, Nat.le_refl _, fun y z c e1 e2 => I.ok.inj y z c (cm e1) (cm e2), fun y hy => ?_, fun y c z _ => ?_, fun _ => hd, Around.frames_deeper e0.frames, .inr ⟨rfl, rfl⟩, fun b z => absurd z (noA b), e0.bs, e0.bsz, fun b _ _ => noA b,
      fun b z => absurd z (noA b), e0.funs, e0.frf⟩,
    rfl, e0.bare, Un.kept kp, ⟨_, hns, fun j y v' e1 e2 e3 => ?_⟩, fun y c e => ?_, e0.hok.fresh (Nat.le_refl _), fun y c e => I.freeC y c (cm e), fun q hq => absurd (show q ∈ ([] : List (Addr × Obj)) ++ [] from hq) (by simp), e0.hok.kept kp, by rw [List.length_set]; exact I.len⟩
  · have hy : scope.names.lookup y = some .cell ∨ scope.names.lookup y = some .free := hy
    rcases hy with hy | hy
    · exact absurd rfl (L.own _ (PySem.mem_of_lookup hy)).1
    · exact look hy
  · have z : false = true := z
    cases z
  · have e3 : Vis scope y := e3
    have e1 : X.N[j]? = some y := e1
    rcases e3 with k | k | k
    · obtain rfl : y = a := (L.own _ (PySem.mem_of_lookup k)).2 rfl
      obtain rfl : j = i := nodup_ix hN e1 hi
      rw [List.getElem?_set_self hil] at e2
      cases e2
      exact ⟨u, r, .inl ⟨k, by simp⟩⟩
    · exact absurd rfl (L.own _ (PySem.mem_of_lookup k)).1
    · have ne : i ≠ j := fun z => by
        subst z
        rw [hi] at e1
        cases e1
        rw [L.par] at k
        cases k
      rw [List.getElem?_set_ne ne] at e2
      obtain ⟨m, hn, hl⟩ := I.loc
      have hvis : Vis X.env.scope y := (L.free _ (PySem.mem_of_lookup k) rfl).elim (fun k => .inr (.inl k)) (fun k => .inr (.inr k))
      obtain ⟨w', r, q⟩ := hl j y v' e1 e2 hvis
      obtain ⟨c2, h2⟩ := look k
      refine ⟨w', r, .inr ⟨.inr k, c2, h2, ?_⟩⟩
      have c1 := cm h2
      rcases q with ⟨k', _⟩ | ⟨_, c3, e', z⟩
      · have k' : X.env.scope.names.lookup y = some .local := k'
        rcases L.free _ (PySem.mem_of_lookup k) rfl with k2 | k2 <;> rw [show X.env.scope.names.lookup y = _ from k2] at k' <;> cases k'
      · rw [c1] at e'
        cases e'
        exact cellK z
  · obtain ⟨w', z⟩ := I.cell y c (cm e)
    exact ⟨w', cellK z⟩
/-- f(u), f the lambda, within a built-in -/
theorem call1 {scope : Scope} {params : Arguments} {body : Expr} {f c' : Addr} {k i : Nat} {a q : Str} {v : V} {u pm ctv : Value} {tb : TE} {Q : VK} (hq : q = X.env.qual ++ "<lambda>") (I : Inv X pins σ H s) (L : LamP X.env.scope scope a) (hN : X.N.Nodup) (hi : X.N[i]? = some a) (r : RelV v u)
    (hf : s.heap.get? f = some (PySem.W.kla_obj "<lambda>" q params body scope (cloFrom X.env.cells scope.names []) pm c' ctv)) (hc : H c' = some (CodeO c' q))
    (hbind : bindArgs (PySem.W.kla_fn "<lambda>" q params body scope (cloFrom X.env.cells scope.names []) pm (.ref c') ctv) ⟨[u], []⟩ = pure [(a, u)]) (hr : Room (k + 1) X.A)
    (hbody : Room k (X.A.in1.in1.deeper (lamEnv X scope s.heap.objs.size f c')) → PE (lamCx X X.A.in1.in1 X.stack s H E0 scope f c') body tb) (ht : tb (σ.set i (some v)) H Q) :
    wpAny (model X.prog X.w) X.A.in1.in1 (call (.ref f) [u]) (EP X pins σ Q) (fun _ _ => False) s := by
  subst hq
  obtain ⟨⟨oc, vs, t, hoc, hdc, hvc⟩, _, _⟩ := I.hok c' _ hc
  have hr2 : Room k (X.A.in1.in1.deeper (lamEnv X scope s.heap.objs.size f c')) := ⟨hr.hd, by have := hr.dp; show X.A.depth + 1 + 3 * k + 5 < _; omega, by have := hr.un; show X.A.units + 1 + 1 + 3 + 16 * k + 200 < _; omega⟩
  have e0 : Env0 X.prog X.w X.K X.mg X.base X.A.in1.in1 X.stack s H := I.env0.in1.in1
  have rc : codeAny (model X.prog X.w) X.A.in1.in1 (.call (.ref f) ⟨[u], []⟩) (CR (L2.CX X.prog X.w) X.stack X.prog X.w H s Q E0) s := by
    refine PySem.W.kla_callFunE (A := X.A.in1.in1) hr.depth hf rfl L.co L.gen rfl ⟨c', oc, vs, t, rfl, hoc, hdc, hvc⟩ ?_
    rw [hbind]
    refine wpAny_pure (wpAny_newFunctionEnv (fun y hy => (L.own y hy).1) (fun y hy => by rw [List.mem_singleton.mp hy]; exact L.par) (fun h₁ hns hsb => ⟨I.nolimit.fresh _ hsb, ?_⟩) L.kind)
    show codeAny _ _ (.expr body (lamEnv X scope s.heap.objs.size f c')) _ _
    have kp : ∀ b o, s.heap.get? b = some o → h₁.get? b = some o := fun b o e => hsb.extBut b o (Nat.ne_of_lt (Heap.lt_size e)) (Heap.get?_push_of_some _ e)
    have J : Inv (lamCx X X.A.in1.in1 X.stack s H E0 scope f c') [] (σ.set i (some v)) H { s with heap := h₁, toks := s.toks + ([(a, u)] : List (Str × Value)).length } :=
      start1 I L e0 hr.hd hN hi r hns kp
    refine PySem.W.kla_codeExpr (wpAny_mono ((hbody hr2).run [] _ _ H Q J ht) (fun v s' hq => ?_) fun e s' hq => hq)
    obtain ⟨w', H', J', rv, q⟩ := hq
    exact ⟨w', H', J'.os, J'.bare, J'.base, J'.hok, rv, q⟩
  refine wpAny_call (codeAny_mono rc fun r s' hq => ?_)
  cases r with
  | error e =>
    obtain ⟨_, _, _, _, _, _, _, _, _, _, _, _, z⟩ := hq
    exact z.elim
  | ok fl =>
    cases fl with
    | ret u => exact I.after hq
    | next => exact False.elim hq
    | brk => exact False.elim hq
    | cont => exact False.elim hq
/-- the lambda is made; nothing that was known is lost -/
theorem make1 {T : List (Addr × Str)} {q : Str} {c P : Addr} {ar : Arguments} {b : Expr} {sc : Scope} {lp : Pos} {E : Value → Shared → Prop} {Q : Value → Shared → Prop} (hq : q = X.env.qual ++ "<lambda>") (I : Inv X pins σ H s) (TB : TabB X.base X.mg c P) (hc : X.env.code = .ref c) (hm : (P, q) ∈ T) (hu : ∀ p ∈ T, p.1 = P → p.2 = q)
    (hT : Tabs T H) (hd : defaultsOf ar X.env = ([], [])) (hf : ∀ y ∈ sc.names, y.2 = .free → ∃ z, X.env.cells.lookup y.1 = some z)
    (h : ∀ (f c' : Addr) (pm ct : Value) (H1 : Hp) (s1 : Shared), Inv X pins σ H1 s1 → ExtN H H1 → (∀ x, H x ≠ none → H1 x ≠ none) → Tabs T H1 → s1.heap.get? f = some (PySem.W.kla_obj "<lambda>" q ar b sc (cloFrom X.env.cells sc.names []) pm c' ct) → H1 f = none → f ∉ frs X.stack →
      H1 c' = some (CodeO c' q) → Q (.ref f) s1) : wpAny (model X.prog X.w) X.A (eval (.Lambda ar b sc lp) X.env) Q E s := by
  subst hq
  obtain ⟨ps, hP, tr, am⟩ := hT _ hm
  have gP : s.heap.get? P = some { cls := .none, data := .fields ps } := I.hok P _ hP
  have bP := TB.bm.keeps I.bk
  have away : ∀ g, s.heap.objs.size ≤ g → g ∉ frs X.stack := fun g hg z => by
    rcases List.mem_cons.mp (I.stkSub _ z) with e | e
    · subst e
      exact absurd I.lt (Nat.not_lt.mpr hg)
    · exact I.nofs hg e
  refine PySem.W.kla_eval hd ?_
  rcases hcc : codeAmong lp ps.toList with _ | cv
  · refine PySem.W.kla_makeFunction (mg := X.mg) (c := c) (P := P) (ps := ps) (closure_ok hf) I.ok.glob (I.mod.glob.keeps I.bk) hc (TB.code.keeps I.bk) gP tr hcc TB.gP bP fun c1 ct h2 tk ext le1 lt1 rec tb => ?_
    obtain ⟨c2, oc, fv, tt, ec, o1, o2, o3⟩ := rec
    obtain rfl : c1 = c2 := by injection ec
    have nC := I.hok.fresh le1
    have le2 : s.heap.objs.size ≤ h2.objs.size := by omega
    have ne : P ≠ c1 := ne_of_none hP nC
    have J := inv_table (c := c1) (q := X.env.qual ++ "<lambda>") (t' := tk) (more := #[rawInt lp.line, rawInt lp.col, .ref c1]) (h' := h2.push (PySem.W.kla_obj "<lambda>" (X.env.qual ++ "<lambda>") ar b sc (cloFrom X.env.cells sc.names []) ((X.mg "__name__").getD .none) c1 ct)) I hP
      (fun x o hx e => Heap.get?_push_of_some _ (ext x o hx e)) (Heap.get?_push_of_some _ tb) le1 ⟨oc, fv, tt, Heap.get?_push_of_some _ o1, o2, o3⟩
    have xt : ExtN H (upd (upd H P (.tbl (ps ++ #[rawInt lp.line, rawInt lp.col, .ref c1]))) c1 (CodeO c1 (X.env.qual ++ "<lambda>"))) := fun x o e n => by
      have hx : x ≠ P := fun z => by rw [z, hP] at e; exact n ps (Option.some.inj e).symm
      rw [upd_ne (ne_of_none e nC), upd_ne hx, e]
    have lst : (ps ++ #[rawInt lp.line, rawInt lp.col, Value.ref c1]).toList = ps.toList ++ [rawInt lp.line, rawInt lp.col, .ref c1] := by simp
    refine h _ c1 _ ct _ _ J xt (fun x hx => ?_) (fun p hp => ?_) (Heap.get?_push_size _ rfl) ?_ (away _ le2) upd_same
    · unfold upd
      split
      · simp
      · split
        · simp
        · exact hx
    · by_cases hb : p.1 = P
      · rw [hu p hp hb, hb]
        refine ⟨_, (upd_ne ne).trans upd_same, by rw [lst]; exact PySem.TriplesOk_snoc _ _ _ _ tr, fun p' cv' hcv => ?_⟩
        rw [lst] at hcv
        rcases among_app _ tr hcv with z | z
        · obtain ⟨c0, z1, z2⟩ := am p' cv' z
          exact ⟨c0, z1, xt _ _ z2 codeO_ne⟩
        · exact ⟨c1, z, upd_same⟩
      · obtain ⟨qs, z1, z2, z3⟩ := hT p hp
        refine ⟨qs, by rw [upd_ne (ne_of_none z1 nC), upd_ne hb, z1], z2, fun p' cv' hcv => ?_⟩
        obtain ⟨c0, w1, w2⟩ := z3 p' cv' hcv
        exact ⟨c0, w1, xt _ _ w2 codeO_ne⟩
    · rw [upd_ne (show h2.objs.size ≠ c1 by omega), upd_ne (show h2.objs.size ≠ P from Nat.ne_of_gt (Nat.lt_of_lt_of_le (Heap.lt_size gP) le2))]
      exact I.hok.fresh le2
  · obtain ⟨c1, ec, hco⟩ := am lp cv hcc
    subst ec
    refine PySem.W.kla_makeFunctionHit (mg := X.mg) (c := c) (P := P) (ps := ps) (closure_ok hf) I.ok.glob (I.mod.glob.keeps I.bk) hc (TB.code.keeps I.bk) gP tr hcc bP fun ct h2 tk ext le2 => ?_
    exact h _ c1 _ ct H _ (I.kept fun x o e => Heap.get?_push_of_some _ (ext x o e)) (ExtN.refl H) (fun _ z => z) hT (Heap.get?_push_size _ rfl) (I.hok.fresh le2) (away _ le2) hco
end
end LamY

/-! sorted(xs, key=f) by data -/
namespace DL
open PySem L2 PySem.W PyProof.Rows LamX
/-- an address that nothing of the frame stands at -/
structure Far (X : Cx) (pins : List (Addr × Obj)) (z : Addr) : Prop where
  L : z ≠ X.env.locals
  fs : z ∉ X.fs
  sz : X.s_0.heap.objs.size ≤ z
  cl : ∀ y c, X.env.cells.lookup y = some c → c ≠ z
  pn : ∀ p ∈ X.pn ++ pins, p.1 ≠ z
section
variable {X : Cx} {pins : List (Addr × Obj)} {σ : L2.St} {H : Hp} {s : Shared}
theorem far_of (I : Inv X pins σ H s) {z : Addr} (h : s.heap.objs.size ≤ z) : Far X pins z := by
  have lt : ∀ {x o}, s.heap.get? x = some o → x ≠ z := fun e => Nat.ne_of_lt (Nat.lt_of_lt_of_le (Heap.lt_size e) h)
  refine ⟨fun e => ?_, I.nofs h, Nat.le_trans I.sz h, fun y c e => ?_, fun p hp => lt (I.pin p hp).1⟩
  · subst e
    exact absurd I.lt (Nat.not_lt.mpr h)
  · obtain ⟨v, o, ho, _⟩ := I.cell y c e
    exact lt ho
theorem rps_pairs {K : PySem.W.Frag} {H : Hp} {O : Av} {mu : Nat → Addr} {n : Nat} : ∀ {zs : List (V × D)}, (∀ z, z ∈ zs → Rp K H O mu n z.1 z.2) → Rps K H O mu n (zs.map Prod.fst) (zs.map Prod.snd)
  | [], _ => .nil
  | z :: zs, h => .cons (h z List.mem_cons_self) (rps_pairs fun y hy => h y (List.mem_cons_of_mem _ hy))
theorem rps_zipD {K : PySem.W.Frag} {H : Hp} {O : Av} {mu : Nat → Addr} {n : Nat} : ∀ {vs : List V} {ds : List D}, Rps K H O mu n vs ds → ∀ z, z ∈ vs.zip ds → Rp K H O mu n z.1 z.2
  | _, _, .nil, _, h => by cases h
  | _, _, .cons r t, z, h => by
    rcases List.mem_cons.mp h with e | h
    · rw [e]; exact r
    · exact rps_zipD t z h
theorem each_vals {out : List Value} : ∀ {zs : List (V × D)} {out : List Value}, EachIs (fun (v : Value) (b : V × D) => RelV b.1 v) out zs → Vals (zs.map Prod.fst) out
  | _, _, .nil => .nil
  | _, _, .cons h t => .cons h (each_vals (out := []) t)
theorem vals_each : ∀ {vs : List V} {us : List Value} {ds : List D}, Vals vs us → vs.length = ds.length → EachIs (fun (v : Value) (b : V × D) => RelV b.1 v) us (vs.zip ds)
  | _, _, [], .nil, _ => .nil
  | _, _, _ :: _, .nil, h => by cases h
  | _, _, [], .cons _ _, h => by cases h
  | _, _, d :: ds, .cons r t, h => .cons r (vals_each t (by simpa using h))
/-- a read of each key -/
theorem each_reads {O0 : Av} {T : TabT} {S : Sto} {M : List D} {κ : D → PyData} (I : Inv X pins σ S.H s) (ok : SOk X.K O0 T S) (eM : S.M = M) : ∀ {kV : List V} {ks : List Value} {kD : List D} {ds : List D}, Vals kV ks → Rs X.K O0 S kV kD → EachIs (fun y x => pyOf M y = some (κ x)) kD ds →
    EachIs (fun v k => ∃ as, Reads s.heap v k as) ks (ds.map κ)
  | _, _, _, _, .nil, .nil, .nil => .nil
  | _, _, _, _, .cons r t, .cons q u, .cons e f => .cons (Dp.reads I _ _ _ (pyOf_dp ok q (by rw [eM]; exact e)) r) (each_reads I ok eM t u f)
theorem Vals.snoc' {v : V} {u : Value} (r : RelV v u) : ∀ {vs : List V} {us : List Value}, Vals vs us → Vals (vs ++ [v]) (us ++ [u])
  | _, _, .nil => .cons r .nil
  | _, _, .cons q t => .cons q (Vals.snoc' r t)
theorem vals_at : ∀ {vs : List V} {us : List Value} {i : Nat} {u : Value}, Vals vs us → us[i]? = some u → ∃ v, vs[i]? = some v ∧ RelV v u
  | _, _, _, _, .nil, h => by cases h
  | _, _, 0, _, .cons r _, h => ⟨_, rfl, by cases h; exact r⟩
  | _, _, i + 1, _, .cons _ t, h => by
    obtain ⟨v, e, r⟩ := vals_at (i := i) t (by simpa using h)
    exact ⟨v, by simpa using e, r⟩
/-- what the sort leads to -/
theorem sort_core {O0 : Av} {T : TabT} {S : Sto} {κ : D → PyData} {f : Value} {a kS : Addr} {e1 : Nat} {its : List Value} {vs : List V} {ds : List D} {h0 h1 : Heap} {Q : VK} {extra : List (Addr × Obj)} {E : Value → Shared → Prop}
    (I : Inv X (pins ++ extra) σ S.H { s with heap := h0 }) (k1 : ∀ x o, h0.get? x = some o → h1.get? x = some o) (la : h0.objs.size ≤ a) (lk : h0.objs.size ≤ kS) (ne : kS ≠ a) (ga : h1.get? a = some (seqObj "list" #[] e1)) (gk : h1.get? kS = some (seqObj "list" #[] 0))
    (ok : SOk X.K O0 T S) (rv : Vals vs its) (rs : Rs X.K O0 S vs ds) (hz : ds.length ≤ sizeLine) (hal : AllAlike (ds.map κ)) (hsk : Sortable (ds.map κ)) (hu : ∀ x, x ∈ ds → X.A.units + 2 + (κ x).depth < cLine)
    (turn : ∀ (pn : List (Addr × Obj)) (s' : Shared) (S' : Sto) (xv : V) (dx : D) (v : Value), Inv X ((pins ++ extra) ++ pn) σ S'.H s' → Step S S' → SOk X.K O0 T S' → S'.M = S.M → dx ∈ ds → R X.K O0 S' xv dx → RelV xv v →
      wpAny (model X.prog X.w) X.A.in1.in1 (call f [v]) (EP X ((pins ++ extra) ++ pn) σ fun yv H' => ∃ y S'', S''.H = H' ∧ Step S' S'' ∧ SOk X.K O0 T S'' ∧ S''.M = S.M ∧ R X.K O0 S'' yv y ∧ pyOf S.M y = some (κ dx)) (fun _ _ => False) s')
    (fin : ∀ (S' : Sto) (vs' : List V), Step S S' → SOk X.K O0 T S' → S'.M = S.M → S'.H a = none → Rs X.K O0 S' vs' (ds.mergeSort fun x y => dataLe false κ x y) → Q (.ref a) (upd S'.H a (.lst vs'))) :
    wpAny (model X.prog X.w) X.A.in1.in1 (ksk_rest a f false its.toArray e1 (.ref kS)) (fun fl s' => fl = .done (.ret .none) ∧ EP X pins σ Q (.ref a) s') E { s with heap := h1 } := by
  have hl : vs.length = ds.length := rs.len
  have hli : its.length = ds.length := by rw [← rv.length, hl]
  have Fa := far_of I la
  have Fk := far_of I lk
  have na : S.H a = none := I.hok.fresh la
  have nk : S.H kS = none := I.hok.fresh lk
  have I1 : Inv X (pins ++ extra) σ S.H { s with heap := h1 } := I.kept k1
  -- the three objects pinned
  have pin3 : ∀ {s' : Shared} {H' : Hp} {e : Nat} {ks : List Value}, Inv X (pins ++ extra) σ H' s' → H' a = none → H' kS = none → s'.heap.get? a = some (seqObj "list" #[] e1) → s'.heap.get? kS = some (seqObj "list" ks.toArray e) → Inv X ((pins ++ extra) ++ [(a, seqObj "list" #[] e1), (kS, seqObj "list" ks.toArray e)]) σ H' s' := by
    intro s' H' e ks J n1 n2 g1 g2
    refine J.pins_of fun p hp => ?_
    rcases List.mem_append.mp hp with hp | hp
    · exact J.pin p (List.mem_append_right _ hp)
    · rcases List.mem_cons.mp hp with rfl | hp
      · exact ⟨g1, n1, Fa.L, Fa.fs, fun v z => by cases z⟩
      · rw [List.mem_singleton.mp hp]
        exact ⟨g2, n2, Fk.L, Fk.fs, fun v z => by cases z⟩
  refine SKY.rest (kz := ds.map κ) (fun i ks s' => ∃ (S' : Sto) (e : Nat) (kV : List V) (kD : List D), Inv X ((pins ++ extra) ++ [(a, seqObj "list" #[] e1), (kS, seqObj "list" ks.toArray e)]) σ S'.H s' ∧ Step S S' ∧ SOk X.K O0 T S' ∧ S'.M = S.M ∧ Vals kV ks ∧ Rs X.K O0 S' kV kD ∧ EachIs (fun y x => pyOf S.M y = some (κ x)) kD (ds.take i))
    (by rw [List.length_map, hli]) (by omega) hal hsk (fun d hd => ?_) ne ⟨S, 0, [], [], pin3 I1 na nk ga gk, Step.refl S, ok, rfl, .nil, .nil, by rw [List.take_zero]; exact .nil⟩ ?_ ?_
  · obtain ⟨x, hx, rfl⟩ := List.mem_map.mp hd
    exact hu x hx
  · rintro i v ks s' hv hks ⟨S', e, kV, kD, J, st, ok', eM, rk, rkD, eD⟩
    obtain ⟨xv, hxv, rx⟩ := vals_at rv hv
    have hi : i < ds.length := by have := (List.getElem?_eq_some_iff.mp hxv).1; omega
    have hdx : ds[i]? = some ds[i] := List.getElem?_eq_getElem hi
    obtain ⟨xv', hxv', rd⟩ := rs.get hdx
    have exv : xv' = xv := Option.some.inj (hxv'.symm.trans hxv)
    subst exv
    refine wpAny_mono (turn _ s' S' _ ds[i] v J st ok' eM (List.getElem_mem hi) (st.rp rd) rx) (fun u s2 q => ?_) fun _ _ z => z
    obtain ⟨yv, H2, J2, ru, y, S2, rfl, st2, ok2, eM2, ry, ey⟩ := q
    have p1 := (J2.pin (kS, seqObj "list" ks.toArray e) (List.mem_append_right _ (List.mem_append_right _ (by simp))))
    have p2 := (J2.pin (a, seqObj "list" #[] e1) (List.mem_append_right _ (List.mem_append_right _ (by simp))))
    refine ⟨e, p1.1, S2, ?_⟩
    obtain ⟨c2, hc2⟩ : ∃ c2, (s2.heap.update kS (Obj.mapSeq (·.push u))).get? kS = some (seqObj "list" (ks.toArray.push u) c2) := ⟨_, get?_update_seq p1.1 (·.push u)⟩
    have other : ∀ x o, x ≠ kS → s2.heap.get? x = some o → (s2.heap.update kS (Obj.mapSeq (·.push u))).get? x = some o := fun x o hx q => (Heap.get?_update_ne _ _ _ _ hx).trans q
    have J3 : Inv X (pins ++ extra) σ S2.H { s2 with heap := s2.heap.update kS (Obj.mapSeq (·.push u)) } := (J2.unpinned).turned (t' := s2.toks) other p1.2.1 Fk.L (.inr Fk.sz) Fk.cl Fk.pn
    have ek : (ks ++ [u]).toArray = ks.toArray.push u := by simp
    refine ⟨c2, kV ++ [yv], kD ++ [y], pin3 J3 p2.2.1 p1.2.1 (other _ _ ne.symm p2.1) (by rw [ek]; exact hc2), st.trans st2, ok2, eM2, Vals.snoc' ru rk, (st2.rps rkD).append (.cons ry .nil), ?_⟩
    rw [List.take_add_one, hdx]
    exact each_snoc (R := fun y x => pyOf S.M y = some (κ x)) ey eD
  · rintro ks s' hks ⟨S', e, kV, kD, J, st, ok', eM, rk, rkD, eD⟩
    have p1 := (J.pin (kS, seqObj "list" ks.toArray e) (List.mem_append_right _ (List.mem_append_right _ (by simp))))
    have p2 := (J.pin (a, seqObj "list" #[] e1) (List.mem_append_right _ (List.mem_append_right _ (by simp))))
    have eD' : EachIs (fun y x => pyOf S.M y = some (κ x)) kD ds := by rwa [hli, List.take_length] at eD
    refine ⟨⟨e, p1.1⟩, p2.1, each_reads J ok' eM rk rkD eD', fun h' tk out c kp ho ko => ⟨rfl, ?_⟩⟩
    have eo := keyedOut_each (bs := vs.zip ds) (R := fun (v : Value) (b : V × D) => RelV b.1 v) (fun b => κ b.2) (by rw [show (vs.zip ds).map (fun b : V × D => κ b.2) = ds.map κ from by rw [show (fun b : V × D => κ b.2) = κ ∘ Prod.snd from rfl, ← List.map_map, List.map_snd_zip (by omega)]]; exact ko) (vals_each rv hl)
    generalize hm : (vs.zip ds).mergeSort (dataLe false fun b => κ b.2) = zs at eo
    have mem : ∀ z, z ∈ zs → z ∈ vs.zip ds := fun z hz => by rw [← hm] at hz; exact (List.mergeSort_perm _ _).mem_iff.mp hz
    have rz : ∀ z, z ∈ zs → R X.K O0 S' z.1 z.2 := fun z hz => st.rp (rps_zipD rs z (mem z hz))
    have es : zs.map Prod.snd = ds.mergeSort fun x y => dataLe false κ x y := by
      rw [← hm, List.map_mergeSort (r := dataLe false fun b : V × D => κ b.2) (s := fun x y => dataLe false κ x y) (f := Prod.snd) (fun _ _ _ _ => rfl), List.map_snd_zip (by omega)]
    have rz' := rps_pairs rz
    rw [es] at rz'
    have lz : (zs.map Prod.fst).length ≤ sizeLine := by
      have := (rps_pairs rz).len
      rw [this, es, List.length_mergeSort]
      exact hz
    have J2 : Inv X (pins ++ extra) σ S'.H s' := J.unpinned
    have nn : ∀ b u, S'.H b = some u → b ≠ a ∧ b ≠ kS := fun b u e => ⟨(fun z => by rw [z, p2.2.1] at e; cases e), (fun z => by rw [z, p1.2.1] at e; cases e)⟩
    have J3 : Inv X (pins ++ extra) σ (upd S'.H a (.lst (zs.map Prod.fst))) { s' with heap := h', toks := tk } := by
      refine J2.step (g' := s'.gens) (d' := s'.drawn) (ch := [a, kS]) (fun b hb => ?_) (fun b o _ _ hc e _ => kp b o (fun z => hc (by simp [z])) (fun z => hc (by simp [z])) e) (fun b o _ _ hc e _ => ⟨o.slots, kp b o (fun z => hc (by simp [z])) (fun z => hc (by simp [z])) e⟩)
        (fun b o hc _ n => by rw [upd_ne (fun z => hc (by simp [z]))]; exact n) (fun b o hc e => ⟨o, kp b o (fun z => hc (by simp [z])) (fun z => hc (by simp [z])) e⟩) (fun b xs e => by rw [upd_ne (nn b _ e).1]; exact e) (fun b o u e => by rw [upd_ne (nn b _ e).1]; exact e)
        (fun b ps e => ⟨#[], by rw [upd_ne (nn b _ e).1, e]; simp⟩) (fun m hm => ?_) (fun b u e => ?_) J2.bare
      · rcases List.mem_cons.mp hb with rfl | hb
        · exact ⟨.inr Fa.sz, Fa.L, Fa.cl, Fa.pn⟩
        · rw [List.mem_singleton.mp hb]
          exact ⟨.inr Fk.sz, Fk.L, Fk.cl, Fk.pn⟩
      · obtain ⟨o, es, ep, ho, r⟩ := hm
        exact ⟨o, es, ep, kp _ o (Ne.symm Fa.L) (Ne.symm Fk.L) ho, r⟩
      · by_cases hb : b = a
        · rw [hb, upd_same] at e
          cases e
          rw [hb]
          exact ⟨lz, out, c, each_vals (out := []) eo, ho⟩
        · rw [upd_ne hb] at e
          refine (J2.hok b u e).stay (fun d v hd q => ?_) (fun d q => by rw [upd_ne (nn d _ q).1]; exact q) fun d xs q => by rw [upd_ne (nn d _ q).1]; exact q
          rcases hd with z | z
          · rw [z] at q ⊢; exact kp _ _ (nn b _ e).1 (nn b _ e).2 q
          · exact kp _ _ (nn d _ z).1 (nn d _ z).2 q
    exact ⟨.ref a, _, J3.unpinned, rfl, fin S' _ st ok' eM p2.2.1 rz'⟩
end
theorem codeO_notown {K : PySem.W.Frag} {O0 : Av} {T : TabT} {S : Sto} {c : Addr} {q : Str} (ok : SOk K O0 T S) (h : S.H c = some (CodeO c q)) : ¬ S.own c := by
  rintro ⟨k, hk, e⟩
  obtain ⟨o, e1, cc⟩ := ok.obj k S.M[k] (List.getElem?_eq_getElem hk)
  rw [e, h] at e1
  have : o = CodeO c q := (Option.some.inj e1).symm
  rw [this] at cc
  unfold CodeO at cc
  cases hd : S.M[k] <;> rw [hd] at cc <;> first
    | exact cc.elim
    | (obtain ⟨_, z, _⟩ := cc; cases z; done)
    | (obtain ⟨_, _, z, _⟩ := cc; cases z; done)
    | (rcases cc with ⟨_, z, _⟩ | ⟨_, _, z, _⟩ <;> cases z)
/-- sorted(xs, key=lambda x: e): the keys leave all alone -/
def wSortL (i : Nat) (wa wk : TDe) : TDe := fun xc rho M Phi => wa xc rho M fun d M1 => match seqOf M1 d with
  | some ds => ds.length ≤ sizeLine → ∃ κ : D → PyData, (∀ x, x ∈ ds → wk xc0 (rho.set i (some x)) M1 fun y M2 => M2 = M1 ∧ pyOf M1 y = some (κ x)) ∧ AllAlike (ds.map κ) ∧ Sortable (ds.map κ) ∧ (∀ x, x ∈ ds → (κ x).depth ≤ 60) ∧ Phi (.lst (ds.mergeSort fun x y => dataLe false κ x y)) M1
  | none => False
theorem en_sortL {X : Cx} {T : TabT} {W : WX} {e body : Expr} {wa wk : TDe} {c P : Addr} {q : Str} {params : Arguments} {scope : Scope} {a : Str} {i k : Nat} {p lpos kpos pos : Pos} (hg : Gl X "sorted") (hm : X.mg "sorted" = none) (he : ED X T W e wa)
    (hq : q = X.env.qual ++ "<lambda>") (TB : TabB X.base X.mg c P) (hcode : X.env.code = .ref c) (hmT : (P, q) ∈ T) (hu : ∀ p ∈ T, p.1 = P → p.2 = q) (L : LamY.LamP X.env.scope scope a) (hdef : defaultsOf params X.env = ([], []))
    (hbind : ∀ (u : Value) (q : Str) (cl : List (Str × Addr)) (pm cv ct : Value), bindArgs (PySem.W.kla_fn "<lambda>" q params body scope cl pm cv ct) ⟨[u], []⟩ = pure [(a, u)]) (hN : X.N.Nodup) (hi : X.N[i]? = some a) (hr : Room (k + 1) X.A)
    (hb : ∀ (s : Shared) (H : Hp) (f c' : Addr), Room k (X.A.in1.in1.deeper (lamEnv X scope s.heap.objs.size f c')) → ED (lamCx X X.A.in1.in1 X.stack s H LamY.E0 scope f c') T W0 body wk)
    (hs : starEach (e :: []) X.env = (false, eval e X.env) :: starEach [] X.env := by rfl) :
    EN X T W (.Call (.Name "sorted" p) [e] [⟨some "key", .Lambda params body scope lpos, kpos⟩] pos) (wSortL i wa wk) := by
  refine ⟨⟨fun pins s σ H Q I h => ?_⟩⟩
  obtain ⟨G, S, rho, xc, Phi, rfl, rel, ge, w, fin⟩ := h
  refine wpAny_Call_Name_kw (ld_blt I hg hm (u := .builtin "sorted") bt_sorted ?_ (by decide) (by decide))
  refine PyProof.Rows.callWith_kw (thn ((pa_cons he.run pa_nil hs).run pos pins s σ S.H (fun vs H1 => ∃ d S1 x, vs = [x] ∧ S1.H = H1 ∧ (match seqOf S1.M d with
      | some ds => ds.length ≤ sizeLine → ∃ κ : D → PyData, (∀ x, x ∈ ds → wk xc0 (rho.set i (some x)) S1.M fun y M2 => M2 = S1.M ∧ pyOf S1.M y = some (κ x)) ∧ AllAlike (ds.map κ) ∧ Sortable (ds.map κ) ∧ (∀ x, x ∈ ds → (κ x).depth ≤ 60) ∧ Phi (.lst (ds.mergeSort fun x y => dataLe false κ x y)) S1.M
      | none => False) ∧ Step S S1 ∧ Rel X.K T G S1 rho σ ∧ R X.K G.O0 S1 x d) I ⟨G, S, rho, xc, _, rfl, rel, ge, w, fun d S1 x w1 s1 r1 rr => ⟨d, S1, x, rfl, rfl, w1, s1, r1, rr⟩⟩) fun us s1 z => ?_) (by rw [hs]; rfl) (by rw [hs]; rfl) (by rfl) (by rfl)
  obtain ⟨vs, H1, I1, r1, d, S1, x, rfl, rfl, w1, st1, rel1, rx⟩ := z
  cases r1 with
  | cons ru rn =>
  cases rn
  show wpAny _ _ (evalAll ((do let v ← eval (.Lambda params body scope lpos) X.env; standAt pos; pure v) :: [])) _ _ s1
  refine wpAny_evalAll_cons (wpAny_bind (LamY.make1 hq I1 TB hcode hmT hu rel1.ok.tab hdef (L.has I1.ok) fun f c' pm ct H2 s2 I2 xt dm T2 hf fn ffr hco => wpAny_bind (wpAny_standAt (wpAny_pure (wpAny_evalAll_nil ?_)))))
  have st2 : Step S1 { S1 with H := H2 } := ⟨fun a o h _ t => xt a o h t, dm, fun _ _ => rfl, Nat.le_refl _, fun k h1 h2 => absurd h2 (Nat.not_lt.mpr h1)⟩
  have ok2 : SOk X.K G.O0 T { S1 with H := H2 } := ⟨fun k d e => by
      obtain ⟨o, e1, c1⟩ := rel1.ok.obj k d e
      exact ⟨o, xt _ o e1 c1.notbl, c1.carry (st2.carry G.O0)⟩, rel1.ok.inj, rel1.ok.out, fun a h => dm a (rel1.ok.dom a h), T2⟩
  have rel2 : Rel X.K T G { S1 with H := H2 } rho σ := rel1.step' st2 ok2
  cases hsq : seqOf S1.M d with
  | none => rw [hsq] at w1; exact w1.elim
  | some ds =>
  rw [hsq] at w1
  obtain ⟨pp, vs, rfl, hseq, rs, hz⟩ := r_seq ok2 (st2.rp rx) (show seqOf S1.M d = some ds from hsq)
  obtain ⟨κ, wk', hal, hsk, hd60, wf⟩ := w1 hz
  cases ru
  have hts : ∃ (ty : String) (o : Obj) (its : List Value) (n : Nat), (ty = "list" ∨ ty = "tuple") ∧ Vals vs its ∧ s2.heap.get? pp = some o ∧ o.cls = .type ty ∧ o.data = .seq its.toArray n := by
    rcases hseq with h | h
    · obtain ⟨its, rv, ⟨o, n, e1, e2, _, e3⟩, _⟩ := I2.list h
      exact ⟨_, o, its, n, .inl rfl, rv, e1, e2, e3⟩
    · obtain ⟨its, rv, ⟨o, e1, e2, n, e3⟩, _⟩ := I2.tuple h
      exact ⟨_, o, its, n, .inr rfl, rv, e1, e2, e3⟩
  obtain ⟨ty, o, its, n, hty, rv, g1, g2, g3⟩ := hts
  have hli : its.length = ds.length := by rw [← rv.length, rs.len]
  have fL : f ≠ X.env.locals := fun z => by
    obtain ⟨m, ⟨o2, es, ep, ho, hdd, _⟩, _⟩ := I2.loc
    rw [← z, hf] at ho
    cases ho
    cases hdd
  have fF : f ∉ X.fs := fun z => by
    rcases I2.ok.stk with e | ⟨e, _⟩
    · exact ffr (by rw [e]; exact z)
    · refine ffr ?_
      rw [e]
      have z : f ∈ frs X.outer := z
      unfold frs at z ⊢
      rw [List.filterMap_cons]
      split
      · exact z
      · exact List.mem_cons_of_mem _ z
  have I3 : Inv X (pins ++ [(f, PySem.W.kla_obj "<lambda>" q params body scope (cloFrom X.env.cells scope.names []) pm c' ct)]) σ H2 s2 := I2.pins_of fun p hp => by
    rcases List.mem_append.mp hp with hp | hp
    · exact I2.pin p (List.mem_append_right _ hp)
    · rw [List.mem_singleton.mp hp]
      exact ⟨hf, fn, fL, fF, fun v z => by cases z⟩
  refine SKY.sorted_by (b := false) (f := .ref f) hty g1 g2 g3 (by omega) (ksk_s1 _ _) (fun _ => ksk_l1 _ _) (fun _ => ksk_t1 _ _) fun h0 h1 a' kS e1 k0 k1 la lk ne ga gk => ?_
  refine sort_core (κ := κ) (S := { S1 with H := H2 }) (I3.kept (t' := s2.toks) k0) k1 la lk ne ga gk ok2 rv rs hz hal hsk (fun x hx => by have := hr.un; have := hd60 x hx; omega) ?_ ?_
  · intro pn s' S' xv dx v J st ok' eM hmem rdx rvx
    have hf' := (J.pin (f, _) (List.mem_append_right _ (List.mem_append_left _ (List.mem_append_right _ (List.mem_singleton.mpr rfl))))).1
    have hc' : S'.H c' = some (CodeO c' q) := st.keep c' _ hco (codeO_notown ok2 hco) codeO_ne
    refine LamY.call1 hq J L hN hi rvx hf' hc' (hbind v _ _ _ _ _) hr (fun hr2 => (hb s' S'.H f c' hr2).run) ?_
    have rel' : Rel X.K T G S' rho σ := rel2.step' st ok'
    have eM' : S'.M = S1.M := eM
    refine ⟨G, S', rho.set i (some dx), xc0, fun y M2 => M2 = S1.M ∧ pyOf S1.M y = some (κ dx), rfl, rel'.set rdx, GE.none, by rw [eM']; exact wk' dx hmem, fun y S2 yv ee s2 rel2' ry => ⟨y, S2, rfl, s2, rel2'.ok, ee.1, ry, ee.2⟩⟩
  · intro S' vs' st ok' eM ha rs'
    have eM' : S'.M = S1.M := eM
    exact fin (.lst (ds.mergeSort fun x y => dataLe false κ x y)) S' a' _ (by rw [eM']; exact wf) ((st1.trans st2).trans st) (rel2.step' st ok') ha ⟨vs', rfl, by rw [List.length_mergeSort]; exact hz, rs'⟩
end DL

/-! defs that make lambdas; the end of a law with tables -/
namespace DL
open PySem L2
structure FunC (K : PySem.W.Frag) (x qual : Str) (st : Stmt) (f : Addr) (fd : FuncData) (c : Addr) : Prop where
  ex : ∃ (oc : Value) (od : Option Addr) (kV doc pm : Value) (an : Option Addr) (ct : Value) (osl : Array (Option Value)),
    fd = PySem.W.fnOf x qual (defArgs st) (defBody st) (defScope st) .none kV doc pm an (.ref c) ct ∧ K.lookup f = some ⟨oc, od, .func fd, osl⟩ ∧ PySem.W.codeIn K (.ref c) qual = true
  kp : PySem.W.keepIn K (.ref f) = true
theorem FunC.fn {K : PySem.W.Frag} {x qual : Str} {st : Stmt} {f : Addr} {fd : FuncData} {c : Addr} (F : FunC K x qual st f fd c) : Fun K x qual st f fd := by
  obtain ⟨oc, od, kV, doc, pm, an, ct, osl, h1, h2, h3⟩ := F.ex
  exact ⟨⟨oc, od, kV, doc, pm, an, .ref c, ct, osl, h1, h2, h3⟩, F.kp⟩
theorem funC_mk {K : PySem.W.Frag} {x qual : Str} {st : Stmt} {f : Addr} {oc : Value} {od : Option Addr} {kV doc pm : Value} {an : Option Addr} {c : Addr} {ct : Value} {osl : Array (Option Value)}
    (lk : K.lookup f = some ⟨oc, od, .func (PySem.W.fnOf x qual (defArgs st) (defBody st) (defScope st) .none kV doc pm an (.ref c) ct), osl⟩) (hc : PySem.W.codeIn K (.ref c) qual = true) (hk : PySem.W.keepIn K (.ref f) = true) :
    FunC K x qual st f (PySem.W.fnOf x qual (defArgs st) (defBody st) (defScope st) .none kV doc pm an (.ref c) ct) c := ⟨⟨oc, od, kV, doc, pm, an, ct, osl, rfl, lk, hc⟩, hk⟩
section
variable {P : Program} {w : World} {K : PySem.W.Frag} {mg : Str → Option Value} {base : Heap} {T : TabT}
theorem def_okC {x qual : Str} {st : Stmt} {f : Addr} {fd : FuncData} {c : Addr} {N ps : List Str} {k : Nat} {PP : PD} {ww : TDs} (F : FunC K x qual st f fd c) (S : FnScope N ps (defScope st)) (len : ∀ ds M Fc, PP ds M Fc → ds.length = ps.length)
    (hb : ∀ (A : Around) (outer : List Env) (s : Shared) (H : Hp) (E : XK), Room k (A.deeper (PyProof.Rows.envOfC qual (defScope st) s.heap.objs.size f (.ref c))) →
      SDs (cxOf (L2.CX P w) P w K mg base N qual (defScope st) f (.ref c) A outer s H E) T (WE0 E) (defBody st) ww)
    (hw : ∀ ds M Fc, PP ds M Fc → ww (xcD M.length Fc) (finD M.length Fc) (startD N ds) M) : FnOk P w K mg base (L2.CX P w) (k + 1) f fd ps (spD K T PP) := by
  obtain ⟨oc, od, kV, doc, pm, an, ct, osl, rfl, lk, hcd⟩ := F.ex
  refine fn_of lk hcd S (fun vs H Q E h => ?_) (fun A outer s H vs Q E hr h => ?_)
  · obtain ⟨O0, S0, ds, Fc, rfl, ok, rs, p, _⟩ := h
    rw [rs.len]
    exact len _ _ _ p
  · obtain ⟨O0, S0, ds, Fc, rfl, ok, rs, p, h1, h2⟩ := h
    refine ⟨_, (hb A outer s S0.H E hr).run, ⟨O0, S0⟩, S0, startD N ds, xcD S0.M.length Fc, finD S0.M.length Fc, rfl, ⟨ok, Step.refl S0, slots_start rs⟩, ?_, hw ds S0.M Fc p, ?_⟩
    · rintro x S rho σ cls dx ⟨m, m0, m1, m2, m3, m4⟩ rel xr
      have hl := cut_len m1
      refine h2 x (S.cut m) cls dx m4 (rel.step.cut m1 m0) (rel.ok.cut m1 m2) ?_
      obtain ⟨e1, e2⟩ := xr
      refine ⟨e1, ?_⟩
      obtain ⟨C, fs⟩ := x
      cases fs with
      | none => exact e2
      | some fs =>
        obtain ⟨a, fvs, e3, e4, r⟩ := e2
        refine ⟨a, fvs, e3, e4, ?_⟩
        have r2 := r.cutL (m := m) (cut_out (O0 := O0) m1) m3
        show RpF K S.H ((S.cut m).O O0) S.mu (S.cut m).M.length fvs fs
        rw [hl]
        exact r2
    · have fin : ∀ (S : Sto) (d : D) (v : V), RetD S0.M.length Fc d S.M → SOk K O0 T S → Step S0 S → R K O0 S v d → Q v S.H := by
        rintro S d v ⟨m, d2, m0, m1, m2, fz, p⟩ ok' st' r
        exact h1 d2 (S.cut m) v p (st'.cut m1 m0) (ok'.cut m1 m2) (fz.rp ok' m1 r)
      refine ⟨fun S rho σ q rel => ?_, fun S d v q ok' st' r => fin S d v q ok' st' r, fun S rho σ q rel => q.elim, fun S rho σ q rel => q.elim⟩
      exact fin S .non .non q rel.ok rel.step .non
end
theorem law_inT {K : PySem.W.Frag} {T : TabT} {f : FP} (H : Hp) (a : Addr) (ns : List Int) (hT : LamX.Tabs T H) (hl : ns.length ≤ sizeLine) (hS : SqL K H a (ns.map V.int)) (hf : f [.lst (ns.map D.int)] (fun d => d = .bl true) (fun _ => False)) : spP K T f [.ref a] H (fun v _ => v = .bl true) fun _ _ _ => False := by
  refine ⟨fun _ => False, ⟨H, fun _ => 0, []⟩, [.lst (ns.map D.int)], ⟨fun d _ => d = .bl true, fun _ _ => False⟩, rfl, ⟨?_, ?_, ?_, ?_, hT⟩, ?_, ⟨rfl, hf⟩, ?_, ?_⟩
  · intro k d h
    cases h
  · intro i j h
    cases h
  · intro k h
    cases h
  · intro b h
    exact h.elim
  · refine .cons ?_ .nil
    refine .lst (vs := ns.map V.int) ?_ (by rw [List.length_map]; exact hl) (Rps.of_ints ns)
    rcases hS with h | h
    · refine .inl ⟨?_, h⟩
      rintro (h | ⟨k, hk, _⟩)
      · exact h
      · cases hk
    · exact .inr h
  · intro d S' v h _ _ r
    rw [show d = .bl true from h] at r
    exact rp_bl r
  · intro x S' cls dx h
    exact h.elim
open PyProof.Rows in
/-- the end of a law whose defs make lambdas -/
theorem walkT {l : PySem.W.OpenLaw} {n k : Nat} {q : Program} {loose : List Str} {XP : (Str → Option Value) → Heap → Prop} {YP : World → Heap → Prop} {d : DefRec} {K : Params → PySem.W.Frag} {x : Str} {f : FP}
    (hn : l.most = some n) (h2 : n ≤ sizeLine) (hdf : d.params.defaults = []) (hr : Room k callerA) (hY : ∀ (w : World) (h : Heap), YP w h → (K w.params).In h)
    (F : ∀ (w : World) (mg : Str → Option Value) (fa : Addr) (h : Heap), (K w.params).In h → (∃ lo mean mb, Top q lo mean mg mb h) → h.Ns mainGlobals mg → XP mg h → mg d.name = some (.ref fa) →
      ∃ (fd : FuncData) (cs : List (Addr × Addr)) (T : TabT), (∀ p ∈ cs, h.get? p.2 = some { cls := .none, data := .fields #[] }) ∧ (∀ p ∈ cs, (K w.params).lookup p.2 = none) ∧ (∀ p ∈ cs, PySem.W.CodeHd h p.1 p.2) ∧ (∀ p ∈ T, p.1 ∈ cs.map (·.2)) ∧
        (∀ (s : Shared) (u : Value), BindsTo s fd ⟨[u], []⟩ [(x, u)]) ∧ ∀ base : Heap, (K w.params).In base → base.Ns mainGlobals mg → (∀ p ∈ cs, LamX.TabB base mg p.1 p.2) → FnOk l.prog w (K w.params) mg base (L2.CX l.prog w) k fa fd [x] (spP (K w.params) T f))
    (hf : ∀ ns : List Int, ns.length ≤ n → f [.lst (ns.map D.int)] (fun d => d = .bl true) (fun _ => False)) :
    PySem.W.WalkO q loose XP YP l.row.toRowW d [] (fun g vs => PySem.call g vs) := by
  refine Att.attach_call hn hdf fun w s0 s1 mg mb fa o pm cd doc a vs ns G Y ho hd hcd hmg ha hi hl hg => ?_
  obtain ⟨fd, cs, T, t1, t2, t3, t4, b1, b2⟩ := F w mg fa _ (hY w _ Y) ⟨_, _, _, G.T⟩ G.T.g G.X hmg
  refine LamX.law_callTs (hY w _ Y) G.T.g G.T.b G.T.builtins G.T.nolimit hg t1 t2 t3 G.T.bmain ha hi (Nat.le_trans hl h2) hr b2 b1 (fun H hH hS => ?_) fun H e s' h => ?_
  · refine law_inT H a ns (fun p hp => ?_) (Nat.le_trans hl h2) hS (hf ns hl)
    obtain ⟨c, hc, e⟩ := List.mem_map.mp (t4 p hp)
    refine LamX.TabS.nil ?_
    rw [← e]
    exact hH c hc
  · obtain ⟨_, _, _, _, _, _, _, _, _, _, _, _, z⟩ := h
    exact z.elim
end DL

/-! more words: keys -/
namespace DL
open PySem L2
def k1_wSortL (i : Nat) (wk : TDe) (rho : Rho) (Phi : D → List D → Prop) : D → List D → Prop := fun d M1 => match seqOf M1 d with
  | some ds => ds.length ≤ sizeLine → ∃ κ : D → PyData, (∀ x, x ∈ ds → wk xc0 (rho.set i (some x)) M1 fun y M2 => M2 = M1 ∧ pyOf M1 y = some (κ x)) ∧ PySem.W.AllAlike (ds.map κ) ∧ PySem.W.Sortable (ds.map κ) ∧ (∀ x, x ∈ ds → (κ x).depth ≤ 60) ∧ Phi (.lst (ds.mergeSort fun x y => PySem.W.dataLe false κ x y)) M1
  | none => False
@[simp ↓] theorem s_wSortL (i : Nat) (wa wk : TDe) (xc : XC) (rho : Rho) (M : List D) (Phi : D → List D → Prop) : wSortL i wa wk xc rho M Phi = wa xc rho M (k1_wSortL i wk rho Phi) := propext Iff.rfl
/-- the keys are ints -/
theorem sortL_int {i : Nat} {wk : TDe} {rho : Rho} {M : List D} {d : D} {ds : List D} {Phi : D → List D → Prop} (g : D → Int) (hs : seqOf M d = some ds) (h : ds.length ≤ sizeLine → ∀ x, x ∈ ds → ∀ N : D → List D → Prop, N (.int (g x)) M → wk xc0 (rho.set i (some x)) M N)
    (q : Phi (.lst (ds.mergeSort fun x y => decide (g x ≤ g y))) M) : k1_wSortL i wk rho Phi d M := by
  unfold k1_wSortL
  rw [hs]
  intro hz
  refine ⟨fun x => .int (g x), fun x hx => h hz x hx _ ⟨rfl, ?_⟩, PySem.W.AllAlike.of fun b b' => by simp [PySem.W.alike], PySem.W.Sortable.others fun b => ⟨by simp, by simp⟩, fun x _ => by simp [PyData.depth], ?_⟩
  · show D.py _ = _
    rw [D.py]
  · rw [PySem.W.dataLe_int]
    exact q
end DL

/-! more words: extend by a new list, < of tuples, sorted of anything alike -/
namespace SKY
open PySem PySem.Calls PyProof.Rows PySem.W
section
variable {prog : Program} {w : World} {A : Around} {E : Value → Shared → Prop} {s : Shared} {vs : List Value}
/-- sorted(xs), xs a list or a tuple at l -/
theorem sorted_plain {T : String} {o : Obj} {n : Nat} {l : Addr} {ks : List PyData} {Q : Value → Shared → Prop} (hT : T = "list" ∨ T = "tuple") (ho : s.heap.get? l = some o) (hc : o.cls = .type T) (hd : o.data = .seq vs.toArray n) (hZ : vs.length ≤ sizeLine)
    (er : EachIs (fun v k => ∃ as, Reads s.heap v k as) vs ks) (hal : AllAlike ks) (hk : Sortable ks) (hu : ∀ d, d ∈ ks → A.units + 2 + d.depth < cLine)
    (h : ∀ (h0 h1 : Heap) (c : Nat), (∀ x o, s.heap.get? x = some o → h0.get? x = some o) → (∀ x o, h0.get? x = some o → h1.get? x = some o) →
      h1.get? h0.objs.size = some (seqObj "list" (sortVals (dataKind (sortingHeap (h0.push (seqObj "list" vs.toArray 0)) h0.objs.size vs) ks) false vs vs).toArray c) → EachIs (fun v k => ∃ as, Reads (sortingHeap (h0.push (seqObj "list" vs.toArray 0)) h0.objs.size vs) v k as) vs ks → Q (.ref h0.objs.size) { s with heap := h1 }) :
    wpAny (model prog w) A (call (.builtin "sorted") [.ref l] []) Q E s := by
  refine call_function_entry_kw kind_sorted plain_sorted entry_sorted (args_sorted1 _) ?_
  unfold Builtin.«sorted»
  refine wpAny_bind (m := checkCount "sorted" 1 1 _) (wpAny_pure ?_)
  refine wpAny_bind (wpAny_collect_seq l hT ho hc hd (fun h0 k1 => ?_) (by rw [List.size_toArray]; exact hZ))
  refine wpAny_bind (wpAny_newList ?_ (by simpa using hZ))
  have g1 : (h0.push (seqObj "list" vs.toArray 0)).get? h0.objs.size = some (seqObj "list" vs.toArray 0) := Heap.get?_push_size _ rfl
  have k2 : ∀ x o, h0.get? x = some o → (h0.push (seqObj "list" vs.toArray 0)).get? x = some o := fun x o q => Heap.get?_push_of_some _ q
  have nx : ∀ x o, h0.get? x = some o → x ≠ h0.objs.size := fun x o q => Nat.ne_of_lt (Heap.lt_size q)
  refine wpAny_bind (wpAny_holding (wpAny_call_entry_kw slot_list_sort ⟨_, g1, rfl⟩ entry_list_sort ?A1 (args_list_sort _)))
  case A1 =>
    have er' : EachIs (fun v k => ∃ as, Reads (sortingHeap (h0.push (seqObj "list" vs.toArray 0)) h0.objs.size vs) v k as) vs ks :=
      er.mono fun _ _ ⟨as, r⟩ => ⟨as, PyProof.Rows.Reads.keeps (fun x o q => sortingHeap_old (nx x o (k1 x o q)) (k2 x o (k1 x o q))) r⟩
    show wpAny (model prog w) A.in1.in1 (Builtin.«list.sort» ⟨[.ref h0.objs.size], []⟩) _ _ _
    refine list_sort_vals (κ := dataKind (sortingHeap (h0.push (seqObj "list" vs.toArray 0)) h0.objs.size vs) ks) (s := { s with heap := h0.push (seqObj "list" vs.toArray 0) }) g1 (SortsAt.data (s := { s with heap := sortingHeap (h0.push (seqObj "list" vs.toArray 0)) h0.objs.size vs }) er' hal hk hu) hZ ?_
    refine ⟨_, rfl, wpAny_pure ⟨_, rfl, ?_⟩⟩
    obtain ⟨e1, g2⟩ : ∃ e1, ((h0.push (seqObj "list" vs.toArray 0)).update h0.objs.size (Obj.mapSeq fun _ => #[])).get? h0.objs.size = some (seqObj "list" #[] e1) := ⟨_, get?_update_seq g1 (fun _ => #[])⟩
    obtain ⟨c, g3⟩ : ∃ c, (sortedHeap (h0.push (seqObj "list" vs.toArray 0)) h0.objs.size vs (sortVals (dataKind (sortingHeap (h0.push (seqObj "list" vs.toArray 0)) h0.objs.size vs) ks) false vs vs).toArray).get? h0.objs.size = some (seqObj "list" (sortVals (dataKind (sortingHeap (h0.push (seqObj "list" vs.toArray 0)) h0.objs.size vs) ks) false vs vs).toArray c) :=
      ⟨_, get?_update_seq (Heap.get?_push_of_some _ (Heap.get?_push_of_some _ g2)) _⟩
    refine h h0 _ c k1 (fun x o q => ?_) g3 er'
    unfold sortedHeap
    rw [Heap.get?_update_ne _ _ _ _ (nx x o q)]
    refine Heap.get?_push_of_some _ (Heap.get?_push_of_some _ ?_)
    rw [Heap.get?_update_ne _ _ _ _ (nx x o q)]
    exact k2 x o q
end
end SKY
namespace DL
open PySem L2 PySem.W PyProof.Rows
theorem each_readsD {X : Cx} {pins : List (Addr × Obj)} {σ : L2.St} {s : Shared} {O0 : Av} {T : TabT} {S : Sto} {κ : D → PyData} (I : Inv X pins σ S.H s) (ok : SOk X.K O0 T S) : ∀ {vs : List V} {us : List Value} {ds : List D}, Vals vs us → Rs X.K O0 S vs ds → (∀ x, x ∈ ds → pyOf S.M x = some (κ x)) →
    EachIs (fun v k => ∃ as, Reads s.heap v k as) us (ds.map κ)
  | _, _, _, .nil, .nil, _ => .nil
  | _, _, _, .cons r t, .cons q u, h => .cons (Dp.reads I _ _ _ (pyOf_dp ok q (h _ List.mem_cons_self)) r) (each_readsD I ok t u fun x hx => h x (List.mem_cons_of_mem _ hx))
/-- sorted(xs) -/
def wSortA (wa : TDe) : TDe := fun xc rho M Phi => wa xc rho M fun d M1 => match seqOf M1 d with
  | some ds => ds.length ≤ sizeLine → ∃ κ : D → PyData, (∀ x, x ∈ ds → pyOf M1 x = some (κ x)) ∧ AllAlike (ds.map κ) ∧ Sortable (ds.map κ) ∧ (∀ x, x ∈ ds → (κ x).depth ≤ 60) ∧ Phi (.lst (ds.mergeSort fun x y => dataLe false κ x y)) M1
  | none => False
theorem en_sortA {X : Cx} {T : TabT} {W : WX} {e : Expr} {wa : TDe} {p pos : Pos} (hg : Gl X "sorted") (hm : X.mg "sorted" = none) (hr : X.A.units + 64 < cLine) (he : ED X T W e wa) (hs : starEach (e :: []) X.env = (false, eval e X.env) :: starEach [] X.env := by rfl) :
    EN X T W (.Call (.Name "sorted" p) [e] [] pos) (wSortA wa) := by
  refine ⟨⟨fun pins s σ H Q I h => ?_⟩⟩
  obtain ⟨G, S, rho, xc, Phi, rfl, rel, ge, w, fin⟩ := h
  refine wpAny_Call_Name_kw (ld_blt I hg hm (u := .builtin "sorted") bt_sorted ?_ (by decide) (by decide))
  refine PyProof.Rows.callWith_builtin1 (thn ((pa_cons he.run pa_nil hs).run pos pins s σ S.H (fun vs H1 => ∃ d S1 x, vs = [x] ∧ S1.H = H1 ∧ (match seqOf S1.M d with
      | some ds => ds.length ≤ sizeLine → ∃ κ : D → PyData, (∀ x, x ∈ ds → pyOf S1.M x = some (κ x)) ∧ AllAlike (ds.map κ) ∧ Sortable (ds.map κ) ∧ (∀ x, x ∈ ds → (κ x).depth ≤ 60) ∧ Phi (.lst (ds.mergeSort fun x y => dataLe false κ x y)) S1.M
      | none => False) ∧ Step S S1 ∧ Rel X.K T G S1 rho σ ∧ R X.K G.O0 S1 x d) I ⟨G, S, rho, xc, _, rfl, rel, ge, w, fun d S1 x w1 s1 r1 rr => ⟨d, S1, x, rfl, rfl, w1, s1, r1, rr⟩⟩) fun us s1 z => ?_) hs (by rfl)
  obtain ⟨vs, H1, I1, r1, d, S1, x, rfl, rfl, w1, st1, rel1, rx⟩ := z
  cases r1 with
  | cons ru rn =>
  cases rn
  cases hsq : seqOf S1.M d with
  | none => rw [hsq] at w1; exact w1.elim
  | some ds =>
  rw [hsq] at w1
  obtain ⟨pp, vs, rfl, hseq, rs, hz⟩ := r_seq rel1.ok rx hsq
  obtain ⟨κ, hκ, hal, hsk, hd60, wf⟩ := w1 hz
  cases ru
  have hts : ∃ (ty : String) (o : Obj) (its : List Value) (n : Nat), (ty = "list" ∨ ty = "tuple") ∧ Vals vs its ∧ s1.heap.get? pp = some o ∧ o.cls = .type ty ∧ o.data = .seq its.toArray n := by
    rcases hseq with h | h
    · obtain ⟨its, rv, ⟨o, n, e1, e2, _, e3⟩, _⟩ := I1.list h
      exact ⟨_, o, its, n, .inl rfl, rv, e1, e2, e3⟩
    · obtain ⟨its, rv, ⟨o, e1, e2, n, e3⟩, _⟩ := I1.tuple h
      exact ⟨_, o, its, n, .inr rfl, rv, e1, e2, e3⟩
  obtain ⟨ty, o, its, n, hty, rv, g1, g2, g3⟩ := hts
  have hl : vs.length = ds.length := rs.len
  have hli : its.length = ds.length := by rw [← rv.length, hl]
  refine SKY.sorted_plain (ks := ds.map κ) hty g1 g2 g3 (by omega) (each_readsD I1 rel1.ok rv rs hκ) hal hsk (fun d hd => ?_) fun h0 h1 c k0 k1 ga er => ?_
  · obtain ⟨x, hx, rfl⟩ := List.mem_map.mp hd
    have := hd60 x hx
    omega
  · have I2 : Inv X pins σ S1.H { s1 with heap := h0 } := I1.kept k0
    have fresh : S1.H h0.objs.size = none := I2.hok.fresh (Nat.le_refl _)
    have rv2 := vals_each rv hl
    have em : (vs.zip ds).map (fun b : V × D => κ b.2) = ds.map κ := by rw [show (fun b : V × D => κ b.2) = κ ∘ Prod.snd from rfl, ← List.map_map, List.map_snd_zip (by omega)]
    generalize hg2 : sortingHeap (h0.push (seqObj "list" its.toArray 0)) h0.objs.size its = hp at ga er
    have eo := sortVals_data (h' := hp) (enc := fun b : V × D => κ b.2) false rv2 (each_of_map (R := fun v k => ∃ as, Reads hp v k as) (fun b : V × D => κ b.2) (by rw [em]; exact er)) (by rw [em]; exact hal)
    rw [em] at eo
    generalize hm : (vs.zip ds).mergeSort (dataLe false fun b => κ b.2) = zs at eo
    have mem : ∀ z, z ∈ zs → z ∈ vs.zip ds := fun z hz => by rw [← hm] at hz; exact (List.mergeSort_perm _ _).mem_iff.mp hz
    have rz := rps_pairs fun z hz => rps_zipD rs z (mem z hz)
    have es : zs.map Prod.snd = ds.mergeSort fun x y => dataLe false κ x y := by
      rw [← hm, List.map_mergeSort (r := dataLe false fun b : V × D => κ b.2) (s := fun x y => dataLe false κ x y) (f := Prod.snd) (fun _ _ _ _ => rfl), List.map_snd_zip (by omega)]
    have lz : (zs.map Prod.fst).length ≤ sizeLine := by
      rw [rz.len, es, List.length_mergeSort]
      exact hz
    rw [es] at rz
    refine ⟨.ref h0.objs.size, _, I2.laid (t' := s1.toks) (o := .lst (zs.map Prod.fst)) k1 (Nat.le_refl _) ⟨lz, _, c, each_vals (out := []) eo, ga⟩, rfl, ?_⟩
    exact fin (.lst (ds.mergeSort fun x y => dataLe false κ x y)) S1 _ _ wf st1 rel1 fresh ⟨_, rfl, by rw [List.length_mergeSort]; exact hz, rz⟩
def k1_wSortA (Phi : D → List D → Prop) : D → List D → Prop := fun d M1 => match seqOf M1 d with
  | some ds => ds.length ≤ sizeLine → ∃ κ : D → PyData, (∀ x, x ∈ ds → pyOf M1 x = some (κ x)) ∧ AllAlike (ds.map κ) ∧ Sortable (ds.map κ) ∧ (∀ x, x ∈ ds → (κ x).depth ≤ 60) ∧ Phi (.lst (ds.mergeSort fun x y => dataLe false κ x y)) M1
  | none => False
@[simp ↓] theorem s_wSortA (wa : TDe) (xc : XC) (rho : Rho) (M : List D) (Phi : D → List D → Prop) : wSortA wa xc rho M Phi = wa xc rho M (k1_wSortA Phi) := propext Iff.rfl
/-- .. of ints -/
theorem sortA_int {M : List D} {d : D} {ns : List Int} {Phi : D → List D → Prop} (hs : seqOf M d = some (ns.map D.int)) (q : Phi (.lst ((ns.mergeSort fun x y => decide (x ≤ y)).map D.int)) M) : k1_wSortA Phi d M := by
  unfold k1_wSortA
  rw [hs]
  intro hz
  have g : ∀ d : D, ∃ i : Int, (∀ j, d = .int j → i = j) := fun d => by
    cases d with
    | int i => exact ⟨i, fun j e => by cases e; rfl⟩
    | _ => exact ⟨0, fun j e => by cases e⟩
  let f : D → Int := fun d => (g d).choose
  have hf : ∀ i : Int, f (.int i) = i := fun i => (g (.int i)).choose_spec i rfl
  refine ⟨fun x => .int (f x), fun x hx => ?_, AllAlike.of fun b b' => by simp [alike], Sortable.others fun b => ⟨by simp, by simp⟩, fun x _ => by simp [PyData.depth], ?_⟩
  · obtain ⟨i, _, rfl⟩ := List.mem_map.mp hx
    show D.py (.int i) = some (.int (f (.int i)))
    rw [hf, D.py]
  · rw [dataLe_int]
    have e : (ns.mergeSort fun x y => decide (x ≤ y)).map D.int = (ns.map D.int).mergeSort fun x y => decide (f x ≤ f y) := by
      rw [List.map_mergeSort (s := fun x y => decide (f x ≤ f y)) (fun a _ b _ => by rw [hf, hf])]
    rw [← e]
    exact q
section
variable {X : Cx} {T : TabT} {W : WX} {o e : Expr} {wo we : TDe} {apos pos : Pos}
/-- xs.extend([..]) -/
def wExtN (wo we : TDe) : TDe := fun xc rho M Phi => wo xc rho M fun d M1 => (match lstOf M1 d with | some _ => True | none => False) ∧ we xc rho M1 fun y M2 => match y with
  | .lst es => atL M2 d fun k ds => ds.length + es.length ≤ sizeLine ∧ Phi .non (M2.set k (.lst (ds ++ es)))
  | _ => False
theorem ed_extN (ho : ED X T W o wo) (he : EN X T W e we) (h : ∀ (to : TE) (t : TA), PE X o to → PA X [e] t → PE X (.Call (.Attribute o "extend" apos) [e] [] pos) (tBM X.K "list" rExtend to t))
    (hs : starEach (e :: []) X.env = (false, eval e X.env) :: starEach [] X.env := by rfl) : ED X T W (.Call (.Attribute o "extend" apos) [e] [] pos) (wExtN wo we) := by
  refine ⟨pe_of (h _ _ ho.run (pa_cons he.run pa_nil hs)) ?_⟩
  rintro σ H Q ⟨G, S, rho, xc, Phi, rfl, rel, ge, w, fin⟩
  refine ⟨G, S, rho, xc, _, rfl, rel, ge, w, fun d S1 x w1 s1 rel1 r1 => ⟨lst_ty rel1.ok r1 w1.1, ?_⟩⟩
  refine ⟨G, S1, rho, xc, _, rfl, rel1, ge, w1.2, fun y S2 a ob w2 s2 rel2 ha c => ?_⟩
  cases y with
  | lst es =>
    obtain ⟨k, ds, rfl, eM, hl, p⟩ := atL_some w2
    obtain ⟨zs, rfl, _, rz⟩ := c
    have s3 : Step S2 (S2.lay a (.lst zs)) := Step.lay ha
    have ok3 := rel2.ok.lay (o := .lst zs) ha
    obtain ⟨hk, vs, hH, _, rs⟩ := at_lst ok3 (show (S2.lay a (.lst zs)).M[k]? = some (.lst ds) from eM)
    obtain ⟨rfl, _⟩ := rp_loc (s3.rp (s2.rp r1))
    have s4 : Step (S2.lay a (.lst zs)) ((S2.lay a (.lst zs)).put k (.lst (vs ++ zs)) (.lst (ds ++ es))) := Step.put hk
    refine ⟨S2.mu k, a, vs, zs, rfl, rfl, hH, upd_same, by rw [rs.len, rz.len]; exact hl, ?_⟩
    exact fin .non _ .non p (((s1.trans s2).trans s3).trans s4) (((rel2.step' s3 ok3)).step' s4 (ok3.put hk ⟨_, rfl, by rw [List.length_append]; exact hl, rs.append (s3.rps rz)⟩)) .non
  | _ => exact w2.elim
def k2_wExtN (Phi : D → List D → Prop) (d : D) : D → List D → Prop := fun y M2 => match y with
  | .lst es => atL M2 d fun k ds => ds.length + es.length ≤ sizeLine ∧ Phi .non (M2.set k (.lst (ds ++ es)))
  | _ => False
@[simp ↓] theorem s_k2_wExtN (Phi : D → List D → Prop) (d : D) (es : List D) (M2 : List D) : k2_wExtN Phi d (.lst es) M2 = atL M2 d fun k ds => ds.length + es.length ≤ sizeLine ∧ Phi .non (M2.set k (.lst (ds ++ es))) := propext Iff.rfl
def k1_wExtN (we : TDe) (xc : XC) (rho : Rho) (Phi : D → List D → Prop) : D → List D → Prop := fun d M1 => (match lstOf M1 d with | some _ => True | none => False) ∧ we xc rho M1 (k2_wExtN Phi d)
@[simp ↓] theorem s_k1_wExtN (we : TDe) (xc : XC) (rho : Rho) (Phi : D → List D → Prop) (d : D) (M1 : List D) : k1_wExtN we xc rho Phi d M1 = ((match lstOf M1 d with | some _ => True | none => False) ∧ we xc rho M1 (k2_wExtN Phi d)) := propext Iff.rfl
@[simp ↓] theorem s_wExtN (wo we : TDe) (xc : XC) (rho : Rho) (M : List D) (Phi : D → List D → Prop) : wExtN wo we xc rho M Phi = wo xc rho M (k1_wExtN we xc rho Phi) := propext Iff.rfl
end
/-- < of tuples of ints -/
def oLtT : Op2 := fun _ a b Psi => match a, b with
  | .tup xs, .tup ys => ∃ ns ms : List Int, xs = ns.map D.int ∧ ys = ms.map D.int ∧ Psi (.bl (HT.lexLt ns ms))
  | _, _ => False
theorem od_ltT {K : PySem.W.Frag} : OpD K (rLtT K) oLtT := by
  intro O0 T S x y a b Psi Q ok ra rb w fin
  unfold oLtT at w
  split at w
  · rename_i xs ys
    obtain ⟨ns, ms, rfl, rfl, w⟩ := w
    obtain ⟨p, vs, rfl, sq, rs, _⟩ := r_tup ra rfl
    obtain ⟨p2, vs2, rfl, sq2, rs2, _⟩ := r_tup rb rfl
    rw [rs.ints] at sq
    rw [rs2.ints] at sq2
    exact ⟨p, p2, ns, ms, rfl, rfl, sq, sq2, fin _ S _ w rfl (Step.refl S) ok (.bl _)⟩
  · exact w.elim
@[simp ↓] theorem s_oLtT (M : List D) (xs ys : List D) (Psi : D → Prop) : oLtT M (.tup xs) (.tup ys) Psi = (∃ ns ms : List Int, xs = ns.map D.int ∧ ys = ms.map D.int ∧ Psi (.bl (HT.lexLt ns ms))) := propext Iff.rfl
theorem oNe_same {M : List D} {d : D} {Psi : D → Prop} (n : Nat) (h : pyN n d) (hn : n ≤ 64) (q : Psi (.bl false)) : oNe M d d Psi := by
  obtain ⟨p, h1, h2, h3⟩ := py_of n d h
  have hp : pyOf M d = some p := (pyOf_in h).trans h1
  have sh := shaped_of h2 h3 hn
  unfold oNe
  rw [hp]
  refine ⟨sh, sh, ?_⟩
  rw [SeqAt.eqv_refl p h2]
  exact q
end DL

/-! words of dicts: a comprehension, a display, a store, sorted(d) -/
namespace SKY
open PySem PySem.Calls PyProof.Rows PySem.W
section
variable {prog : Program} {w : World} {A : Around} {E : Value → Shared → Prop} {s : Shared} {T : String} {r d : Addr} {n : Nat} {P : Nat → Value → Prop} {OK : Heap → Prop}
theorem collect_code {R : Result → Shared → Prop} (K : KdlSrc prog w T r d n P OK) (hh : A.handled = none) (hok : OK s.heap) (hn : n ≤ sizeLine)
    (hR : ∀ (h' : Heap) (tk : Nat) (acc : Array Value) (c' : Nat), (∀ b o, s.heap.get? b = some o → h'.get? b = some o) → h'.get? s.heap.objs.size = some { cls := .type "list", dict := none, data := .seq acc c', slots := #[] } → ItemsOf P acc n → R (.ok (.ret (.ref s.heap.objs.size))) { s with heap := h', toks := tk }) :
    codeAny (model prog w) A (.builtin "proto.collect" ⟨[.ref r], []⟩) R s := by
  have hlt := K.there _ hok
  have hSr : s.heap.objs.size ≠ r := Nat.ne_of_gt hlt.1
  have hSd : s.heap.objs.size ≠ d := Nat.ne_of_gt hlt.2
  refine codeAny_builtin PySem.F.entry_proto_collect ?_
  rw [Around.under_plainId PySem.F.plain_proto_collect _]
  show wpAny _ A.in1 (newList [] >>= fun l => again (.builtin "list.__iadd__" ⟨[l, .ref r], []⟩)) _ _ s
  refine wpAny_bind (wpAny_newObj_type ?_)
  refine wpAny_pure ⟨plainId_quiet PySem.F.plain_list_iadd _, codeAny_builtin PySem.F.entry_list_iadd ?_⟩
  rw [Around.under_plainId PySem.F.plain_list_iadd _]
  have hS : (s.heap.push { cls := .type "list", data := .seq ([] : List Value).toArray }).get? s.heap.objs.size = some { cls := .type "list", data := .seq ([] : List Value).toArray } := Heap.get?_push_size _ rfl
  show wpAny _ A.in1 (Builtin.List.listExtendWith (.ref s.heap.objs.size) (.ref r) (.ref s.heap.objs.size)) _ _ _
  refine kdl_extend (R := R) (s := { s with heap := s.heap.push { cls := .type "list", data := .seq ([] : List Value).toArray } }) K hh (K.keep _ _ hok fun b _ o e => Heap.get?_push_of_some _ e) _ hSr hSd (.ref s.heap.objs.size) 0 hS (fun h' tk acc' c' hk hS' hacc => ?_) hn
  exact hR h' tk acc' c' (fun b o e => hk b o (Nat.ne_of_lt (Heap.lt_size e)) (Heap.get?_push_of_some _ e)) hS' hacc
theorem collect_kdl {Q : List Value → Shared → Prop} (K : KdlSrc prog w T r d n P OK) (hh : A.handled = none) (hok : OK s.heap) (hn : n ≤ sizeLine)
    (hQ : ∀ (h' : Heap) (tk : Nat) (acc : Array Value), (∀ b o, s.heap.get? b = some o → h'.get? b = some o) → ItemsOf P acc n → Q acc.toList { s with heap := h', toks := tk }) : wpAny (model prog w) A (collect (.ref r)) Q E s := by
  unfold collect
  refine wpAny_bind (wpAny_runValue (collect_code K hh hok hn fun h' tk acc' c' hk hS' hacc => ?_))
  show wpAny _ A (load s.heap.objs.size >>= _) _ _ _
  refine wpAny_bind (wpAny_load hS' ?_)
  exact wpAny_pure (hQ h' tk acc' hk hacc)
/-- sorted(d): what comes out of d, gathered, then put -/
theorem sorted_kdl {Q : Value → Shared → Prop} {ks : List PyData} (K : KdlSrc prog w T r d n P OK) (hh : A.handled = none) (hok : OK s.heap) (hn : n ≤ sizeLine)
    (hP : ∀ (h0 : Heap) (vs : List Value), (∀ x o, s.heap.get? x = some o → h0.get? x = some o) → vs.length = n → (∀ j v, vs[j]? = some v → P j v) → EachIs (fun v k => ∃ as, Reads h0 v k as) vs ks) (hal : AllAlike ks) (hk : Sortable ks) (hu : ∀ d, d ∈ ks → A.units + 2 + d.depth < cLine)
    (h : ∀ (h0 h1 : Heap) (tk : Nat) (vs : List Value) (c : Nat), (∀ x o, s.heap.get? x = some o → h0.get? x = some o) → (∀ x o, h0.get? x = some o → h1.get? x = some o) → vs.length = n → (∀ j v, vs[j]? = some v → P j v) →
      h1.get? h0.objs.size = some (seqObj "list" (sortVals (dataKind (sortingHeap (h0.push (seqObj "list" vs.toArray 0)) h0.objs.size vs) ks) false vs vs).toArray c) → EachIs (fun v k => ∃ as, Reads (sortingHeap (h0.push (seqObj "list" vs.toArray 0)) h0.objs.size vs) v k as) vs ks → Q (.ref h0.objs.size) { s with heap := h1, toks := tk }) :
    wpAny (model prog w) A (call (.builtin "sorted") [.ref r] []) Q E s := by
  refine call_function_entry_kw kind_sorted plain_sorted entry_sorted (args_sorted1 _) ?_
  unfold Builtin.«sorted»
  refine wpAny_bind (m := checkCount "sorted" 1 1 _) (wpAny_pure ?_)
  refine wpAny_bind (collect_kdl K hh hok hn fun h0 tk acc k1 hacc => ?_)
  have lv : acc.toList.length = n := by rw [Array.length_toList]; exact hacc.1
  have pv : ∀ j v, acc.toList[j]? = some v → P j v := fun j v e => hacc.2 j v (by rw [← Array.getElem?_toList]; exact e)
  generalize acc.toList = vs at lv pv ⊢
  have hZ : vs.length ≤ sizeLine := by omega
  have er := hP h0 vs k1 lv pv
  refine wpAny_bind (wpAny_newList ?_ (by simpa using hZ))
  have g1 : (h0.push (seqObj "list" vs.toArray 0)).get? h0.objs.size = some (seqObj "list" vs.toArray 0) := Heap.get?_push_size _ rfl
  have k2 : ∀ x o, h0.get? x = some o → (h0.push (seqObj "list" vs.toArray 0)).get? x = some o := fun x o q => Heap.get?_push_of_some _ q
  have nx : ∀ x o, h0.get? x = some o → x ≠ h0.objs.size := fun x o q => Nat.ne_of_lt (Heap.lt_size q)
  refine wpAny_bind (wpAny_holding (wpAny_call_entry_kw slot_list_sort ⟨_, g1, rfl⟩ entry_list_sort ?A1 (args_list_sort _)))
  case A1 =>
    have er' : EachIs (fun v k => ∃ as, Reads (sortingHeap (h0.push (seqObj "list" vs.toArray 0)) h0.objs.size vs) v k as) vs ks :=
      er.mono fun _ _ ⟨as, r⟩ => ⟨as, PyProof.Rows.Reads.keeps (fun x o q => sortingHeap_old (nx x o q) (k2 x o q)) r⟩
    show wpAny (model prog w) A.in1.in1 (Builtin.«list.sort» ⟨[.ref h0.objs.size], []⟩) _ _ _
    refine list_sort_vals (κ := dataKind (sortingHeap (h0.push (seqObj "list" vs.toArray 0)) h0.objs.size vs) ks) (s := { s with heap := h0.push (seqObj "list" vs.toArray 0), toks := tk }) g1 (SortsAt.data (s := { s with heap := sortingHeap (h0.push (seqObj "list" vs.toArray 0)) h0.objs.size vs, toks := tk }) er' hal hk hu) hZ ?_
    refine ⟨_, rfl, wpAny_pure ⟨_, rfl, ?_⟩⟩
    obtain ⟨e1, g2⟩ : ∃ e1, ((h0.push (seqObj "list" vs.toArray 0)).update h0.objs.size (Obj.mapSeq fun _ => #[])).get? h0.objs.size = some (seqObj "list" #[] e1) := ⟨_, get?_update_seq g1 (fun _ => #[])⟩
    obtain ⟨c, g3⟩ : ∃ c, (sortedHeap (h0.push (seqObj "list" vs.toArray 0)) h0.objs.size vs (sortVals (dataKind (sortingHeap (h0.push (seqObj "list" vs.toArray 0)) h0.objs.size vs) ks) false vs vs).toArray).get? h0.objs.size = some (seqObj "list" (sortVals (dataKind (sortingHeap (h0.push (seqObj "list" vs.toArray 0)) h0.objs.size vs) ks) false vs vs).toArray c) :=
      ⟨_, get?_update_seq (Heap.get?_push_of_some _ (Heap.get?_push_of_some _ g2)) _⟩
    refine h h0 _ tk vs c k1 (fun x o q => ?_) lv pv g3 er'
    unfold sortedHeap
    rw [Heap.get?_update_ne _ _ _ _ (nx x o q)]
    refine Heap.get?_push_of_some _ (Heap.get?_push_of_some _ ?_)
    rw [Heap.get?_update_ne _ _ _ _ (nx x o q)]
    exact k2 x o q
end
end SKY
namespace DL
open PySem L2 PySem.W PyProof.Rows
/-! ### tables of whole numbers, at the level of data -/
def putI (i : Int) (v : D) (kvs : List (D × D)) : List (D × D) :=
  if (assocI i kvs).isSome = true then kvs.map (fun p => match p with | (.int j, x) => if j = i then (.int j, v) else (.int j, x) | q => q) else kvs ++ [(.int i, v)]
theorem putI_len (i : Int) (v : D) (kvs : List (D × D)) : (putI i v kvs).length ≤ kvs.length + 1 := by
  unfold putI
  split
  · rw [List.length_map]; omega
  · rw [List.length_append, List.length_singleton]; exact Nat.le_refl _
section
variable {K : PySem.W.Frag} {H : Hp} {O : Av} {mu : Nat → Addr} {n : Nat}
theorem RpK.len : ∀ {us : List (Key × V)} {ds : List (D × D)}, RpK K H O mu n us ds → us.length = ds.length
  | _, _, .nil => rfl
  | _, _, .cons _ r => congrArg (· + 1) (RpK.len r)
theorem RpK.append : ∀ {us us' : List (Key × V)} {ds ds' : List (D × D)}, RpK K H O mu n us ds → RpK K H O mu n us' ds' → RpK K H O mu n (us ++ us') (ds ++ ds')
  | _, _, _, _, .nil, q => q
  | _, _, _, _, .cons h r, q => .cons h (RpK.append r q)
theorem RpK.repl {i : Int} {v : V} {d : D} (rv : Rp K H O mu n v d) : ∀ {us : List (Key × V)} {ds : List (D × D)}, RpK K H O mu n us ds → RpK K H O mu n (us.map fun kv => if kv.1 = .inl i then (kv.1, v) else kv) (ds.map fun p => match p with | (.int j, x) => if j = i then (.int j, d) else (.int j, x) | q => q)
  | _, _, .nil => .nil
  | _, _, .cons (k := k) (v := u) (d := x) (vs := us) (ds := ds) h r => by
    have ih := RpK.repl (i := i) rv r
    rw [List.map_cons, List.map_cons]
    cases k with
    | inl j =>
      show RpK K H O mu n ((if (Sum.inl j : Key) = .inl i then ((Sum.inl j : Key), v) else ((Sum.inl j : Key), u)) :: _) ((if j = i then (D.int j, d) else (D.int j, x)) :: _)
      by_cases e : j = i
      · subst e
        rw [if_pos rfl, if_pos rfl]
        exact .cons (k := .inl j) rv ih
      · rw [if_neg (fun z => e (Sum.inl.inj z)), if_neg e]
        exact .cons (k := .inl j) h ih
    | inr y =>
      show RpK K H O mu n ((if (Sum.inr y : Key) = .inl i then ((Sum.inr y : Key), v) else ((Sum.inr y : Key), u)) :: _) ((D.str y, x) :: _)
      rw [if_neg (fun z => by cases z)]
      exact .cons (k := .inr y) h ih
theorem RpK.put {i : Int} {v : V} {d : D} (rv : Rp K H O mu n v d) {us : List (Key × V)} {ds : List (D × D)} (r : RpK K H O mu n us ds) : RpK K H O mu n (putK us (.inl i) v) (putI i d ds) := by
  have g := rpK_get (i := i) r
  unfold putK putI
  rw [valV_any]
  cases ha : assocI i ds with
  | none =>
    rw [g.2 ha]
    exact r.append (.cons (k := .inl i) rv .nil)
  | some c =>
    obtain ⟨w, e, _⟩ := g.1 c ha
    rw [e]
    exact r.repl rv
end
/-- d[i] = e, d a dict that changes -/
def wDPut (wo wi we : TDe) : TDs := fun xc F rho M => we xc rho M fun v M1 => wo xc rho M1 fun d M2 => wi xc rho M2 fun y M3 => match d with
  | .loc k => (match M3[k]? with
    | some (.dct kvs) => isI (fun i => intKeys kvs = true ∧ kvs.length < sizeLine ∧ F.nx rho (M3.set k (.dct (putI i v kvs)))) y
    | _ => False)
  | _ => False
section
variable {X : Cx} {T : TabT} {W : WX} {o e i : Expr} {wo we wi : TDe} {pos pos' : Pos}
theorem sd_dput (hu : X.A.units + 1 < cLine) (ho : ED X T W o wo) (hi : ED X T W i wi) (he : ED X T W e we) (hs : swapsWith e (some (.Subscript o i pos')) pos.line X.env = pure false := by rfl) : SD X T W (.Assign [.Subscript o i pos'] e pos) (wDPut wo wi we) := by
  refine ⟨ps_of (ps_dput hu ho.run hi.run he.run hs) ?_⟩
  rintro Dn σ H ⟨G, S, rho, xc, F, rfl, rel, ge, w, ends⟩
  refine ⟨G, S, rho, xc, _, rfl, rel, ge, w, fun v S1 u w1 s1 rel1 r1 => ?_⟩
  refine ⟨G, S1, rho, xc, _, rfl, rel1, ge, w1, fun d S2 x w2 s2 rel2 r2 => ?_⟩
  refine ⟨G, S2, rho, xc, _, rfl, rel2, ge, w2, fun y S3 z w3 s3 rel3 r3 => ?_⟩
  cases d with
  | loc k =>
    dsimp only at w3
    cases hM : S3.M[k]? with
    | none => rw [hM] at w3; exact w3.elim
    | some c =>
      rw [hM] at w3
      cases c with
      | dct kvs =>
        obtain ⟨i, ey, hk, hl, w4⟩ := isI_some w3
        subst ey
        obtain ⟨o', e1, q⟩ := rel3.ok.obj k _ hM
        have hkl : k < S3.M.length := (List.getElem?_eq_some_iff.mp hM).1
        rcases q with ⟨us, e2, q⟩ | ⟨us, es, e2, e4, q⟩
        · obtain ⟨rfl, _⟩ := rp_loc (s3.rp r2)
          rw [rp_int r3]
          have s4 : Step S3 (S3.put k (.dK (putK us (.inl i) u)) (.dct (putI i v kvs))) := Step.put hkl
          refine ⟨S3.mu k, _, rfl, .inl ⟨us, .inl i, by rw [e1, e2], rfl, by rw [q.len]; exact hl, rfl⟩, ?_⟩
          exact ends.nx (S3.put k (.dK (putK us (.inl i) u)) (.dct (putI i v kvs))) rho σ w4 (rel3.step' s4 (rel3.ok.put hkl (.inl ⟨_, rfl, q.put ((s2.trans s3).rp r1)⟩)))
        · subst e4
          cases hk
      | _ => exact w3.elim
  | _ => exact w3.elim
end
end DL
namespace DL
open PySem L2 PySem.W PyProof.Rows
/-! ### a dict by a comprehension -/
def dcGo (g : TDg) (wt : TDt) (wk wv : TDe) (gd : List D → Prop) (rho : Rho) (Phi : D → List D → Prop) : List D → List (D × D) → List D → Prop
  | [], acc, M => gd M ∧ intKeys acc = true ∧ Phi (.dct acc) M
  | d :: ds, acc, M => gd M ∧ g d rho M fun rho1 M1 => wt xc0 rho1 M1 fun b M2 => if b = true then wk xc0 rho1 M2 fun y M3 => wv xc0 rho1 M3 fun z M4 => isI (fun i => dcGo g wt wk wv gd rho Phi ds (putI i z acc) M4) y else dcGo g wt wk wv gd rho Phi ds acc M2
def wDc (wi : TDi) (g : TDg) (wt : TDt) (wk wv : TDe) (vs : List Nat) : TDe := fun xc rho M Phi => wi xc rho M fun items gd M1 => items.length < sizeLine ∧ dcGo g wt wk wv gd (wipeD rho vs) Phi items [] M1
section
variable {K : PySem.W.Frag} {O0 O1 : Av} {T : TabT} {S S1 S2 : Sto} {A : Addr} {o : HO}
theorem tabs_overK {vs : List (Key × V)} (ht : LamX.Tabs T S.H) (hA : S.H A = some (.dK vs)) {u : Option HO} : LamX.Tabs T (fun b => if b = A then u else S.H b) := fun p hp => by
  obtain ⟨ps, h1, h2, h3⟩ := ht p hp
  refine ⟨ps, ?_, h2, fun pos cv hc => ?_⟩
  · show (if p.1 = A then u else S.H p.1) = _
    rw [if_neg (fun z => by rw [z, hA] at h1; cases h1)]
    exact h1
  · obtain ⟨c', e1, e2⟩ := h3 pos cv hc
    refine ⟨c', e1, ?_⟩
    show (if c' = A then u else S.H c') = _
    rw [if_neg (fun z => by rw [z, hA] at e2; unfold LamX.CodeO at e2; cases e2)]
    exact e2
theorem SOk.overK {vs ws : List (Key × V)} (ok : SOk K O1 T S) (h : O1 A) (hA : S.H A = some (.dK vs)) : SOk K O1 T (S.lay A (.dK ws)) where
  obj := fun k d e => (ok.obj k d e).carry (carry_over h) (upd_ne fun z => ok.out k (List.getElem?_eq_some_iff.mp e).1 (by rw [show S.mu k = A from z]; exact h))
  inj := ok.inj
  out := ok.out
  dom := fun a q => by
    show upd S.H A _ a ≠ none
    by_cases z : a = A
    · rw [z, upd_same]; simp
    · rw [upd_ne z]; exact ok.dom a q
  tab := tabs_overK ok.tab hA
theorem SOk.offK {vs : List (Key × V)} (ok : SOk K (orA O0 A) T S) (s : Step S1 S) (ok1 : SOk K O0 T S1) (h1 : S1.H A = none) (hA : S.H A = some (.dK vs)) : SOk K O0 T (S.off A) where
  obj := fun k d e => (ok.obj k d e).carry carry_off (by
    show (if S.mu k = A then none else S.H (S.mu k)) = S.H (S.mu k)
    exact if_neg fun z => ok.out k (List.getElem?_eq_some_iff.mp e).1 (.inr z))
  inj := ok.inj
  out := fun k hk q => ok.out k hk (.inl q)
  dom := fun a q => by
    show (if a = A then none else S.H a) ≠ none
    rw [if_neg (fun z => ok1.dom a q (by rw [z]; exact h1))]
    exact ok.dom a (.inl q)
  tab := tabs_overK ok.tab hA
theorem off_updK {vs : List (Key × V)} (hA : S.H A = some (.dK vs)) : upd (S.off A).H A (.dK vs) = S.H := by
  funext b
  unfold upd Sto.off
  by_cases z : b = A
  · rw [if_pos z, z, hA]
  · rw [if_neg z]
    exact if_neg z
end
section
variable {X : Cx} {T : TabT} {W : WX} {kx vx tg iter : Expr} {ifs : List Expr} {scope : Scope} {own : List (Str × Nat)} {is : List Nat} {pos : Pos} {wi : TDi} {g : TDg} {wt : TDt} {wk wv : TDe}
theorem ti_dc (his : ∀ i, i ∈ is → i ∈ own.map (·.2)) : ∀ σ H Q, tN X.K T W (wDc wi g wt wk wv (own.map (·.2))) σ H Q → tDc (tI X.K T W wi) (tG X.K T is g) (tT X.K T W0 wt) (tD X.K T W0 wk) (tD X.K T W0 wv) (own.map (·.2)) σ H Q := by
  rintro σ H Q ⟨G, S, rho, xc, Phi, rfl, rel, ge, w, fin⟩
  refine ⟨G, S, rho, xc, _, rfl, rel, ge, w, fun items gd S1 w1 s1 rel1 J wk1 => ?_⟩
  obtain ⟨hlen, w1⟩ := w1
  intro A hA
  refine ⟨fun i m H => ∃ S2 vs2 acc, S2.H = H ∧ Step S1 S2 ∧ SOk X.K (orA G.O0 A) T S2 ∧ S2.H A = some (.dK vs2) ∧ ¬ S2.own A ∧ RpK X.K S2.H (S2.O (orA G.O0 A)) S2.mu S2.M.length vs2 acc ∧ acc.length ≤ i ∧ i + m = items.length ∧
    dcGo g wt wk wv gd (wipeD rho (own.map (·.2))) Phi (items.drop i) acc S2.M, ⟨items.length, S1.lay A (.dK []), [], [], rfl, Step.lay hA, rel1.ok.wider hA, upd_same, ?_, .nil, Nat.le_refl _, Nat.zero_add _, w1⟩, ?_⟩
  · rintro ⟨k, hk, e⟩
    exact rel1.ok.there hk (by rw [show S1.mu k = A from e]; exact hA)
  · rintro i m H' ⟨S2, vs2, acc, rfl, s2, ok2, hA2, nA2, rs2, hacc, him, w2⟩
    have c12 : CarryS G.O0 S1 (orA G.O0 A) S2 := carryA s2 hA
    cases hd : items.drop i with
    | nil =>
      rw [hd] at w2
      obtain ⟨w2, hik, w3⟩ := w2
      have hl : items.length ≤ i := by
        apply Classical.byContradiction
        intro hn
        rw [List.drop_eq_getElem_cons (by omega)] at hd
        cases hd
      refine .inl ⟨(wk1 i S2 _ c12 ok2 w2).2 (by omega), ?_⟩
      have sf : Step S1 (S2.off A) := s2.offA hA
      have q := fin (.dct acc) (S2.off A) A (.dK vs2) w3 (s1.trans sf) (rel1.step' sf (ok2.offK s2 rel1.ok hA hA2)) (if_pos rfl) (.inl ⟨vs2, rfl, rs2.carry carry_off⟩)
      rw [off_updK hA2] at q
      exact q
    | cons d ds =>
      rw [hd] at w2
      obtain ⟨w2, w3⟩ := w2
      obtain ⟨h1, h2⟩ := drop_some hd
      have hil : i < items.length := (List.getElem?_eq_some_iff.mp h1).1
      obtain ⟨go, yl⟩ := (wk1 i S2 _ c12 ok2 w2).1 d h1
      refine .inr ⟨go, fun H3 => ∃ S3 vs3 acc3, S3.H = H3 ∧ Step S1 S3 ∧ SOk X.K (orA G.O0 A) T S3 ∧ S3.H A = some (.dK vs3) ∧ ¬ S3.own A ∧ RpK X.K S3.H (S3.O (orA G.O0 A)) S3.mu S3.M.length vs3 acc3 ∧ acc3.length ≤ i + 1 ∧
        dcGo g wt wk wv gd (wipeD rho (own.map (·.2))) Phi ds acc3 S3.M, ?_, fun x H4 y => ?_⟩
      · rintro H3 ⟨S3, vs3, acc3, e3, a1, a2, a3, a4, a5, a6, a7⟩
        exact ⟨m - 1, by omega, S3, vs3, acc3, e3, a1, a2, a3, a4, a5, a6, by omega, by rw [h2]; exact a7⟩
      · obtain ⟨S4, rfl, eM, s4, ok4, r4⟩ := yl x H4 y
        have stay : ∀ {Sa Sb : Sto}, Step Sa Sb → Sa.H A = some (.dK vs2) → ¬ Sa.own A → Sb.H A = some (.dK vs2) ∧ ¬ Sb.own A := fun {Sa Sb} st h n =>
          ⟨st.keep A _ h n (fun ps z => by cases z), fun o => n (st.own_of (by rw [h]; simp) o)⟩
        obtain ⟨hA4, nA4⟩ := stay s4 hA2 nA2
        have s14 : Step S1 S4 := s2.trans s4
        refine ⟨⟨orA G.O0 A, S4⟩, S4, wipeD rho (own.map (·.2)), d, _, rfl, ⟨ok4, Step.refl S4, (rel1.slots.carry (carryA s14 hA)).wipe _⟩, r4, (by rw [eM]; exact w3), fun rho5 S5 σ5 w5 s5 rel5 u5 => ⟨?_, ?_⟩⟩
        · rw [u5 _ his, wipe_idem]
        · obtain ⟨hA5, nA5⟩ := stay s5 hA4 nA4
          refine ⟨⟨orA G.O0 A, S4⟩, S5, rho5, xc0, _, rfl, rel5, GE.none, w5, fun b S6 w6 s6 rel6 => ?_⟩
          obtain ⟨hA6, nA6⟩ := stay s6 hA5 nA5
          cases b with
          | true =>
            refine ⟨⟨orA G.O0 A, S4⟩, S6, rho5, xc0, _, rfl, rel6, GE.none, w6, fun y S7 v w7 s7 rel7 r7 => ?_⟩
            obtain ⟨hA7, nA7⟩ := stay s7 hA6 nA6
            refine ⟨⟨orA G.O0 A, S4⟩, S7, rho5, xc0, _, rfl, rel7, GE.none, w7, fun z S8 u w8 s8 rel8 r8 => ?_⟩
            obtain ⟨hA8, nA8⟩ := stay s8 hA7 nA7
            obtain ⟨j, ej, w9⟩ := isI_some w8
            subst ej
            have r7i := rp_int r7
            subst r7i
            have s18 : Step S1 S8 := (((s14.trans s5).trans s6).trans s7).trans s8
            have rs8 : RpK X.K S8.H (S8.O (orA G.O0 A)) S8.mu S8.M.length vs2 acc := RpK.carry ((((s4.trans s5).trans s6).trans s7).trans s8 |>.carry _) rs2
            have pl := putI_len j z acc
            refine ⟨vs2, .inl j, rfl, hA8, by rw [rs2.len]; omega, S8.lay A (.dK (putK vs2 (.inl j) u)), putK vs2 (.inl j) u, putI j z acc, rfl, s18.overA hA, rel8.ok.overK (.inr rfl) hA8, upd_same, nA8, ?_, by omega, w9⟩
            exact RpK.carry (carry_over (.inr rfl)) (rs8.put r8)
          | false =>
            exact ⟨S6, vs2, acc, rfl, (s14.trans s5).trans s6, rel6.ok, hA6, nA6, RpK.carry (((s4.trans s5).trans s6).carry _) rs2, by omega, w6⟩
theorem en_dc (hc : X.calm = true) (hN : X.N.Nodup) (hi : ID X T W tg iter wi) (ok : BlkOk X.N X.env.scope scope own)
    (hg : ∀ (s : Shared) (H : Hp) (C : Addr) (cl : List (Str × Addr)) (fp : List Addr), GD (X.blk s H scope (compEnvC scope cl C X.env) fp) T is tg g)
    (ht : ∀ (s : Shared) (H : Hp) (C : Addr) (cl : List (Str × Addr)) (fp : List Addr), EPt (X.blk s H scope (compEnvC scope cl C X.env) fp) T W0 ifs wt)
    (hk : ∀ (s : Shared) (H : Hp) (C : Addr) (cl : List (Str × Addr)) (fp : List Addr), ED (X.blk s H scope (compEnvC scope cl C X.env) fp) T W0 kx wk)
    (he : ∀ (s : Shared) (H : Hp) (C : Addr) (cl : List (Str × Addr)) (fp : List Addr), ED (X.blk s H scope (compEnvC scope cl C X.env) fp) T W0 vx wv)
    (his : ∀ i, i ∈ is → i ∈ own.map (·.2)) (hs : ∀ x, foldedSetIterable iter X.env x = pure x := by intro _; rfl) :
    EN X T W (.DictComp kx vx [⟨tg, iter, ifs, 0⟩] scope pos) (wDc wi g wt wk wv (own.map (·.2))) :=
  ⟨pe_of (pe_dc hc hN hi.run ok (fun s H C cl fp => (hg s H C cl fp).run) (fun s H C cl fp => (ht s H C cl fp).run) (fun s H C cl fp => (hk s H C cl fp).run) (fun s H C cl fp => (he s H C cl fp).run) hs) (ti_dc his)⟩
end
end DL
namespace DL
open PySem L2 PySem.W PyProof.Rows
/-! ### displays -/
def wD0 : TDe := fun _ _ M Phi => Phi (.dct []) M
def wD1 (k v : Int) : TDe := fun _ _ M Phi => Phi (.dct [(.int k, .int v)]) M
section
variable {X : Cx} {T : TabT} {W : WX} {pos p1 p2 : Pos}
theorem en_d0 : EN X T W (.Dict [] [] pos) wD0 := by
  refine ⟨pe_of pe_dnewK ?_⟩
  rintro σ H Q ⟨G, S, rho, xc, Phi, rfl, rel, ge, w, fin⟩
  exact fun p hp => fin (.dct []) S p (.dK []) w (Step.refl S) rel hp (.inl ⟨[], rfl, .nil⟩)
theorem en_d1 {k v : Int} {t1 t2 : Nat} : EN X T W (.Dict [some (.Constant (.int k) t1 p1)] [.Constant (.int v) t2 p2] pos) (wD1 k v) := by
  refine ⟨pe_of (pe_disp (pps_cons pe_int pe_int pps_nil) rfl rfl (by simp) (by simp)) ?_⟩
  rintro σ H Q ⟨G, S, rho, xc, Phi, rfl, rel, ge, w, fin⟩
  intro p hp
  refine ⟨upd_same, [(.inl k, .int v)], rfl, by simp, ?_⟩
  rw [upd_upd]
  exact fin (.dct [(.int k, .int v)]) S p (.dK [(.inl k, .int v)]) w (Step.refl S) rel hp (.inl ⟨_, rfl, .cons (k := .inl k) (.int v) .nil⟩)
end
/-! ### sorted(d), the keys whole numbers -/
theorem rpK_keys {K : PySem.W.Frag} {H : Hp} {O : Av} {mu : Nat → Addr} {n : Nat} : ∀ {us : List (Key × V)} {ds : List (D × D)} {ks : List Int}, RpK K H O mu n us ds → ds.map Prod.fst = ks.map D.int → us.map Prod.fst = ks.map Sum.inl
  | _, _, [], .nil, _ => rfl
  | _, _, i :: ks, .cons (k := k) h r, e => by
    rw [List.map_cons, List.map_cons] at e
    injection e with e1 e2
    cases k with
    | inl j =>
      have : j = i := by injection e1
      subst this
      rw [List.map_cons, List.map_cons, rpK_keys r e2]
    | inr x => cases e1
theorem vals_keys {P : Program} {w : World} : ∀ (ks : List Int) (vs : List Value), vs.length = ks.length → (∀ (j : Nat) (v : Value), vs[j]? = some v → ∃ k, ks[j]? = some k ∧ ∃ t, v = .int k t) → Vals (ks.map V.int) vs
  | [], [], _, _ => .nil
  | k :: ks, v :: vs, h, g => by
    obtain ⟨k', e, t, ev⟩ := g 0 v rfl
    cases e
    exact .cons ⟨t, ev⟩ (vals_keys (P := P) (w := w) ks vs (by simpa using h) fun j u e => g (j + 1) u e)
def wSortK (wa : TDe) : TDe := fun xc rho M Phi => wa xc rho M fun d M1 => match dctOf M1 d with
  | some kvs => ∃ ks : List Int, kvs.map Prod.fst = ks.map D.int ∧ Phi (.lst ((ks.mergeSort fun x y => decide (x ≤ y)).map D.int)) M1
  | none => False
theorem en_sortK {X : Cx} {T : TabT} {W : WX} {e : Expr} {wa : TDe} {p pos : Pos} (hc : X.calm = true) (hg : Gl X "sorted") (hm : X.mg "sorted" = none) (hr : X.A.units + 64 < cLine) (he : ED X T W e wa) (hs : starEach (e :: []) X.env = (false, eval e X.env) :: starEach [] X.env := by rfl) :
    EN X T W (.Call (.Name "sorted" p) [e] [] pos) (wSortK wa) := by
  refine ⟨⟨fun pins s σ H Q I h => ?_⟩⟩
  obtain ⟨G, S, rho, xc, Phi, rfl, rel, ge, w, fin⟩ := h
  refine wpAny_Call_Name_kw (ld_blt I hg hm (u := .builtin "sorted") bt_sorted ?_ (by decide) (by decide))
  refine PyProof.Rows.callWith_builtin1 (thn ((pa_cons he.run pa_nil hs).run pos pins s σ S.H (fun vs H1 => ∃ d S1 x, vs = [x] ∧ S1.H = H1 ∧ (match dctOf S1.M d with
      | some kvs => ∃ ks : List Int, kvs.map Prod.fst = ks.map D.int ∧ Phi (.lst ((ks.mergeSort fun x y => decide (x ≤ y)).map D.int)) S1.M
      | none => False) ∧ Step S S1 ∧ Rel X.K T G S1 rho σ ∧ R X.K G.O0 S1 x d) I ⟨G, S, rho, xc, _, rfl, rel, ge, w, fun d S1 x w1 s1 r1 rr => ⟨d, S1, x, rfl, rfl, w1, s1, r1, rr⟩⟩) fun us s1 z => ?_) hs (by rfl)
  obtain ⟨vs, H1, I1, r1, d, S1, x, rfl, rfl, w1, st1, rel1, rx⟩ := z
  cases r1 with
  | cons ru rn =>
  cases rn
  cases hsq : dctOf S1.M d with
  | none => rw [hsq] at w1; exact w1.elim
  | some kvs =>
  rw [hsq] at w1
  obtain ⟨ks, hks, wf⟩ := w1
  obtain ⟨pp, rfl, hpp⟩ := r_dct rel1.ok rx hsq
  cases ru
  obtain ⟨us, hH, rk⟩ : ∃ us, S1.H pp = some (.dK us) ∧ RpK X.K S1.H (S1.O G.O0) S1.mu S1.M.length us kvs := by
    rcases hpp with z | ⟨us, es, hH, e4, _⟩
    · exact z
    · subst e4
      cases ks with
      | nil => cases hks
      | cons k ks => rw [List.map_cons, List.map_cons] at hks; injection hks with h1 _; cases h1
  obtain ⟨hz, lo, vd, rkv, dof⟩ := dk_of I1.hok hH
  obtain ⟨ep, dat⟩ := dof.dictAt
  have hkey := rpK_keys rk hks
  have lk : us.length = ks.length := by have := congrArg List.length hkey; simpa using this
  have lv : vd.length = ks.length := by rw [← rkv.length, lk]
  have keyAt : ∀ (j : Nat) (v : Value), (∃ (k : Key) (x : Value), vd[j]? = some (k, x) ∧ (mixKind X.prog X.w).is k v = true) → ∃ k, ks[j]? = some k ∧ ∃ t, v = .int k t := by
    rintro j v ⟨k, x, e1, e2⟩
    have e3 : (vd.map Prod.fst)[j]? = some k := by rw [List.getElem?_map, e1]; rfl
    have e4 : vd.map Prod.fst = ks.map Sum.inl := by rw [← hkey]; exact rkv.keys.symm
    rw [e4, List.getElem?_map] at e3
    cases hj : ks[j]? with
    | none => rw [hj] at e3; cases e3
    | some i =>
      rw [hj] at e3
      cases e3
      rcases keyIs_shape (k := .inl i) (v := v) e2 with ⟨i', t, e5, rfl⟩ | ⟨y, t, e5, rfl⟩
      · cases e5; exact ⟨i, rfl, t, rfl⟩
      · cases e5
  have mk : ∀ vs : List Value, vs.length = vd.length → (∀ (j : Nat) (v : Value), vs[j]? = some v → ∃ (k : Key) (x : Value), vd[j]? = some (k, x) ∧ (mixKind X.prog X.w).is k v = true) → Vals (ks.map V.int) vs := fun vs h1 h2 => vals_keys (P := X.prog) (w := X.w) ks vs (by omega) fun j v e => keyAt j v (h2 j v e)
  have eachR : ∀ (hp : Heap) (ks : List Int) (vs : List Value), Vals (ks.map V.int) vs → EachIs (fun v k => ∃ as, Reads hp v k as) vs (ks.map PyData.int) := by
    intro hp ks
    induction ks with
    | nil => intro vs h; cases h; exact .nil
    | cons k ks ih =>
      intro vs h
      rw [List.map_cons] at h
      cases h with
      | cons r t =>
        obtain ⟨tk, rfl⟩ := r
        exact .cons ⟨_, .int k tk⟩ (ih _ t)
  refine SKY.sorted_kdl (ks := ks.map PyData.int) (kdl_dict (knd := mixKind X.prog X.w) lo) (I1.ok.hd hc) dat (by omega) (fun h0 vs k1 h1 h2 => eachR h0 ks vs (mk vs h1 h2)) (AllAlike.of fun b b' => by simp [alike]) (Sortable.others fun b => ⟨by simp, by simp⟩) (fun d hd => ?_) fun h0 h1 tk vs c k0 k1 h2 h3 ga er => ?_
  · obtain ⟨x, hx, rfl⟩ := List.mem_map.mp hd
    have : (PyData.int x).depth ≤ 1 := by simp [PyData.depth]
    omega
  · have rv := mk vs h2 h3
    have I2 : L2.Inv X pins σ S1.H { s1 with heap := h0, toks := tk } := I1.kept k0
    have fresh : S1.H h0.objs.size = none := I2.hok.fresh (Nat.le_refl _)
    have rs : Rs X.K G.O0 S1 (ks.map V.int) (ks.map D.int) := Rps.of_ints ks
    let g : D → Int := fun d => match d with | .int i => i | _ => 0
    let f : D → PyData := fun d => .int (g d)
    have hf : (ks.map D.int).map f = ks.map PyData.int := by rw [List.map_map]; rfl
    have hl : (ks.map V.int).length = (ks.map D.int).length := by simp
    have rv2 := vals_each rv hl
    have em : ((ks.map V.int).zip (ks.map D.int)).map (fun b : V × D => f b.2) = ks.map PyData.int := by rw [show (fun b : V × D => f b.2) = f ∘ Prod.snd from rfl, ← List.map_map, List.map_snd_zip (by omega), hf]
    generalize hg2 : sortingHeap (h0.push (seqObj "list" vs.toArray 0)) h0.objs.size vs = hp at ga er
    have eo := sortVals_data (h' := hp) (enc := fun b : V × D => f b.2) false rv2 (each_of_map (R := fun v k => ∃ as, Reads hp v k as) (fun b : V × D => f b.2) (by rw [em]; exact er)) (by rw [em]; exact AllAlike.of fun b b' => by simp [alike])
    rw [em] at eo
    generalize hm : ((ks.map V.int).zip (ks.map D.int)).mergeSort (dataLe false fun b => f b.2) = zs at eo
    have mem : ∀ z, z ∈ zs → z ∈ (ks.map V.int).zip (ks.map D.int) := fun z hz => by rw [← hm] at hz; exact (List.mergeSort_perm _ _).mem_iff.mp hz
    have rz := rps_pairs fun z hz => rps_zipD rs z (mem z hz)
    have es : zs.map Prod.snd = (ks.mergeSort fun x y => decide (x ≤ y)).map D.int := by
      rw [← hm, List.map_mergeSort (r := dataLe false fun b : V × D => f b.2) (s := fun x y => dataLe false f x y) (f := Prod.snd) (fun _ _ _ _ => rfl), List.map_snd_zip (by omega)]
      rw [show f = fun d => PyData.int (g d) from rfl, dataLe_int]
      rw [List.map_mergeSort (s := fun x y => decide (g x ≤ g y)) (fun a _ b _ => rfl)]
    have lz : (zs.map Prod.fst).length ≤ sizeLine := by
      rw [rz.len, es, List.length_map, List.length_mergeSort]
      omega
    rw [es] at rz
    refine ⟨.ref h0.objs.size, _, I2.laid (t' := tk) (o := .lst (zs.map Prod.fst)) k1 (Nat.le_refl _) ⟨lz, _, c, each_vals (out := []) eo, ga⟩, rfl, ?_⟩
    exact fin (.lst ((ks.mergeSort fun x y => decide (x ≤ y)).map D.int)) S1 _ _ wf st1 rel1 fresh ⟨_, rfl, by rw [List.length_map, List.length_mergeSort]; omega, rz⟩
end DL
namespace DL
open PySem L2
/-! ### by simp -/
@[simp ↓] theorem s_wD0 (xc : XC) (rho : Rho) (M : List D) (Phi : D → List D → Prop) : wD0 xc rho M Phi = Phi (.dct []) M := propext Iff.rfl
@[simp ↓] theorem s_wD1 (k v : Int) (xc : XC) (rho : Rho) (M : List D) (Phi : D → List D → Prop) : wD1 k v xc rho M Phi = Phi (.dct [(.int k, .int v)]) M := propext Iff.rfl
def k1_wSortK (Phi : D → List D → Prop) : D → List D → Prop := fun d M1 => match dctOf M1 d with
  | some kvs => ∃ ks : List Int, kvs.map Prod.fst = ks.map D.int ∧ Phi (.lst ((ks.mergeSort fun x y => decide (x ≤ y)).map D.int)) M1
  | none => False
@[simp ↓] theorem s_wSortK (wa : TDe) (xc : XC) (rho : Rho) (M : List D) (Phi : D → List D → Prop) : wSortK wa xc rho M Phi = wa xc rho M (k1_wSortK Phi) := propext Iff.rfl
theorem sortK_int {M : List D} {d : D} {kvs : List (D × D)} {ks : List Int} {Phi : D → List D → Prop} (hs : dctOf M d = some kvs) (hk : kvs.map Prod.fst = ks.map D.int) (q : Phi (.lst ((ks.mergeSort fun x y => decide (x ≤ y)).map D.int)) M) : k1_wSortK Phi d M := by
  unfold k1_wSortK
  rw [hs]
  exact ⟨ks, hk, q⟩
def k3_wDPut (F : Fin) (rho : Rho) (v d : D) : D → List D → Prop := fun y M3 => match d with
  | .loc k => (match M3[k]? with
    | some (.dct kvs) => isI (fun i => intKeys kvs = true ∧ kvs.length < sizeLine ∧ F.nx rho (M3.set k (.dct (putI i v kvs)))) y
    | _ => False)
  | _ => False
@[simp ↓] theorem s_k3_wDPut (F : Fin) (rho : Rho) (v : D) (k : Nat) (i : Int) (M3 : List D) : k3_wDPut F rho v (.loc k) (.int i) M3 = (match M3[k]? with
    | some (.dct kvs) => intKeys kvs = true ∧ kvs.length < sizeLine ∧ F.nx rho (M3.set k (.dct (putI i v kvs)))
    | _ => False) := propext Iff.rfl
def k2_wDPut (wi : TDe) (xc : XC) (F : Fin) (rho : Rho) (v : D) : D → List D → Prop := fun d M2 => wi xc rho M2 (k3_wDPut F rho v d)
@[simp ↓] theorem s_k2_wDPut (wi : TDe) (xc : XC) (F : Fin) (rho : Rho) (v d : D) (M2 : List D) : k2_wDPut wi xc F rho v d M2 = wi xc rho M2 (k3_wDPut F rho v d) := propext Iff.rfl
def k1_wDPut (wo wi : TDe) (xc : XC) (F : Fin) (rho : Rho) : D → List D → Prop := fun v M1 => wo xc rho M1 (k2_wDPut wi xc F rho v)
@[simp ↓] theorem s_k1_wDPut (wo wi : TDe) (xc : XC) (F : Fin) (rho : Rho) (v : D) (M1 : List D) : k1_wDPut wo wi xc F rho v M1 = wo xc rho M1 (k2_wDPut wi xc F rho v) := propext Iff.rfl
@[simp ↓] theorem s_wDPut (wo wi we : TDe) (xc : XC) (F : Fin) (rho : Rho) (M : List D) : wDPut wo wi we xc F rho M = we xc rho M (k1_wDPut wo wi xc F rho) := propext Iff.rfl
def k1_wDc (g : TDg) (wt : TDt) (wk wv : TDe) (vs : List Nat) (rho : Rho) (Phi : D → List D → Prop) : List D → (List D → Prop) → List D → Prop := fun items gd M1 => items.length < sizeLine ∧ dcGo g wt wk wv gd (wipeD rho vs) Phi items [] M1
@[simp ↓] theorem s_k1_wDc (g : TDg) (wt : TDt) (wk wv : TDe) (vs : List Nat) (rho : Rho) (Phi : D → List D → Prop) (items : List D) (gd : List D → Prop) (M1 : List D) : k1_wDc g wt wk wv vs rho Phi items gd M1 = (items.length < sizeLine ∧ dcGo g wt wk wv gd (wipeD rho vs) Phi items [] M1) := propext Iff.rfl
@[simp ↓] theorem s_wDc (wi : TDi) (g : TDg) (wt : TDt) (wk wv : TDe) (vs : List Nat) (xc : XC) (rho : Rho) (M : List D) (Phi : D → List D → Prop) : wDc wi g wt wk wv vs xc rho M Phi = wi xc rho M (k1_wDc g wt wk wv vs rho Phi) := propext Iff.rfl
@[simp] theorem s_dcN (g : TDg) (wt : TDt) (wk wv : TDe) (gd : List D → Prop) (rho : Rho) (Phi : D → List D → Prop) (acc : List (D × D)) (M : List D) : dcGo g wt wk wv gd rho Phi [] acc M = (gd M ∧ intKeys acc = true ∧ Phi (.dct acc) M) := propext Iff.rfl
@[simp] theorem s_dcC (g : TDg) (wt : TDt) (wk wv : TDe) (gd : List D → Prop) (rho : Rho) (Phi : D → List D → Prop) (d : D) (ds : List D) (acc : List (D × D)) (M : List D) : dcGo g wt wk wv gd rho Phi (d :: ds) acc M =
  (gd M ∧ g d rho M fun rho1 M1 => wt xc0 rho1 M1 fun b M2 => if b = true then wk xc0 rho1 M2 fun y M3 => wv xc0 rho1 M3 fun z M4 => isI (fun i => dcGo g wt wk wv gd rho Phi ds (putI i z acc) M4) y else dcGo g wt wk wv gd rho Phi ds acc M2) := propext Iff.rfl
end DL

/-! words: a tuple turned about by a slice, enumerate of a tuple or a list -/
namespace SKY
open PySem PySem.Spec PyProof.Rows HT PySem.W
section
variable {prog : Program} {w : World} {A : Around} {E : Value → Shared → Prop} {s : Shared}
theorem sliceApplied_rev {sl : Addr} {vs : Value} {n : Nat} {Q : Int × Int × Nat → Shared → Prop} (hs : s.heap.IsSliceOf sl .none .none vs) (ps : IsPart vs (some (-1)))
    (h : Q ((n : Int) - 1, -1, n) s) : wpAny (model prog w) A (Builtin.Slice.sliceApplied (.ref sl) (pure (n : Int))) Q E s := by
  obtain ⟨os, hos, hcs, hds⟩ := id hs
  have e1 : Builtin.Slice.sliceAdjust none none (-1) (n : Int) = ((n : Int) - 1, -1) := by
    unfold Builtin.Slice.sliceAdjust
    simp
  have e2 : Builtin.Slice.slicePlaces ((n : Int) - 1) (-1) (-1) = n := by
    unfold Builtin.Slice.slicePlaces
    simp
    try omega
  unfold Builtin.Slice.sliceApplied Builtin.Slice.sliceFields
  refine wpAny_bind (wpAny_bind (wpAny_field hos hds (x := .none) rfl (wpAny_bind (wpAny_field hos hds (x := .none) rfl (wpAny_bind (wpAny_field hos hds (x := vs) rfl (wpAny_pure ?_)))))))
  refine wpAny_bind (slicePart_ ps ?_)
  show wpAny _ _ (if ((-1 : Int) == 0) = true then _ else _) _ _ s
  rw [if_neg (by decide)]
  refine wpAny_bind (slicePart_none (wpAny_bind (slicePart_none (wpAny_bind (wpAny_pure ?_)))))
  show wpAny _ _ (match Builtin.Slice.sliceAdjust none none (-1) (n : Int) with | (lo, hi) => pure (lo, (-1 : Int), Builtin.Slice.slicePlaces lo hi (-1))) _ _ s
  rw [e1]
  show wpAny _ _ (pure ((n : Int) - 1, (-1 : Int), Builtin.Slice.slicePlaces ((n : Int) - 1) (-1) (-1))) _ _ s
  rw [e2]
  exact wpAny_pure h
theorem pick_rev (xs : Array Value) : ((List.range xs.size).filterMap fun (m : Nat) => xs[(((xs.size : Int) - 1) + (m : Int) * (-1)).toNat]?).toArray = xs.toList.reverse.toArray := by
  have e : ((List.range xs.size).filterMap fun (m : Nat) => xs[(((xs.size : Int) - 1) + (m : Int) * (-1)).toNat]?) = ((List.range xs.size).map fun k => xs.size - 1 - k).filterMap (xs[·]?) := by
    rw [List.filterMap_map]
    congr 1
    funext m
    have : (((xs.size : Int) - 1) + (m : Int) * (-1)).toNat = xs.size - 1 - m := by omega
    rw [this]
    rfl
  rw [e, krv_range, List.filterMap_reverse, krv_all]
theorem getItem_tuple_rev {t sl : Addr} {items : Array Value} {vs : Value} {Q : Value → Shared → Prop} (ht : IsTup s.heap t items) (hs : s.heap.IsSliceOf sl .none .none vs) (ps : IsPart vs (some (-1)))
    (h : Q (.ref s.heap.objs.size) { s with heap := s.heap.push { cls := .type "tuple", data := .seq items.toList.reverse.toArray } })
    (hsz : items.size ≤ sizeLine) : wpAny (model prog w) A (getItem (.ref t) (.ref sl)) Q E s := by
  have htake : sizeOk (.seq items.toList.reverse.toArray) := by
    show items.toList.reverse.toArray.size ≤ sizeLine
    rw [List.size_toArray, List.length_reverse, Array.length_toList]
    exact hsz
  obtain ⟨os, hos, hcs, hds⟩ := id hs
  have hTs : s.TypeIs (.ref sl) "slice" := ⟨os, hos, hcs⟩
  unfold getItem
  try with_reducible refine wpAny_holding ?_
  first | refine wpAny_bind (wpAny_pure ?_) | skip
  refine wpAny_bind (wpAny_sequenceKey ht.typeIs (by decide) ?_)
  refine wpAny_bind (wpAny_callSpecial?_slot (name := Str.ofString "__getitem__") ht.typeIs PyProof.Rows.slot_tuple_getitem
    (wpAny_call_entry PyProof.Rows.slot_tuple_getitem ht.typeIs entry_tuple_getitem ?_ (args_tuple_getitem _ _)))
  show wpAny _ _ (Builtin.Tuple.tupleItemsOf (.ref t) >>= _) _ _ s
  refine wpAny_bind (tupleItemsOf_ ht ?_)
  refine wpAny_bind (wpAny_typeOf hTs ?_)
  rw [if_pos (by decide)]
  refine wpAny_bind (sliceApplied_rev (n := items.size) hs ps ?_)
  have hno : ¬ ((((items.size : Int) - 1) == 0 && (-1 : Int) == 1 && items.size == items.size) = true) := by
    simp
  show wpAny _ _ (if (((items.size : Int) - 1) == 0 && (-1 : Int) == 1 && items.size == items.size) = true then _ else _) _ _ s
  rw [if_neg hno, pick_rev]
  first
    | exact wpAny_bind (m := Builtin.Tuple.tupleExact _) (wpAny_newObj_type (wpAny_pure ⟨_, rfl, wpAny_pure h⟩) htake)
    | exact wpAny_bind (m := Builtin.Tuple.tupleExact _) (wpAny_newObj_type (wpAny_bind (wpAny_pure (wpAny_pure ⟨_, rfl, wpAny_pure h⟩))) htake)
    | exact wpAny_bind (wpAny_bind (m := Builtin.Tuple.tupleExact _) (wpAny_newObj_type (wpAny_pure (wpAny_pure ⟨_, rfl, wpAny_pure h⟩)) htake))
    | exact wpAny_bind (wpAny_bind (m := Builtin.Tuple.tupleExact _) (wpAny_newObj_type (wpAny_pure ⟨_, rfl, wpAny_pure h⟩) htake))
end
end SKY
namespace DL
open PySem L2 PySem.Spec PyProof.Rows
/-! ### t[::-1] -/
def tRevT (K : PySem.W.Frag) (te : TE) : TE := fun σ H Q => te σ H fun x H1 => ∃ a xs, x = .ref a ∧ SqT K H1 a xs ∧ ∀ p, H1 p = none → Q (.ref p) (upd H1 p (.tup xs.reverse))
section
variable {X : Cx}
theorem pe_revT {e : Expr} {te : TE} {k : Nat} {p1 p2 p3 pos : Pos} (he : PE X e te) : PE X (.Subscript e (.Slice none none (some (.UnaryOp .USub (.Constant (.int 1) k p1) p2)) p3) pos) (tRevT X.K te) := by
  refine ⟨fun pins s σ H Q I h => ?_⟩
  refine Subscript_ (thn (he.run pins s σ H _ I h) fun v s1 ⟨x, H1, I1, r1, q1⟩ => ?_)
  obtain ⟨a, xs, ex, hx, q⟩ := q1
  subst ex
  cases r1
  have hst : PO X (some (.UnaryOp .USub (.Constant (.int 1) k p1) p2)) (tPart (tUn (rU fun i => .int (-i)) (tC (.int 1)))) := po_some (pe_un un_neg pe_int)
  refine wpAny_Slice (thn (po_none.run pins s1 σ H1 (fun o H2 => o = none ∧ H2 = H1) I1 ⟨rfl, rfl⟩) fun vl s2 ⟨l, H2, I2, pl, el, e2⟩ => ?_)
  subst el e2
  refine thn (po_none.run pins s2 σ H2 (fun o H3 => o = none ∧ H3 = H2) I2 ⟨rfl, rfl⟩) fun vu s3 ⟨u, H3, I3, pu, eu, e3⟩ => ?_
  subst eu e3
  refine thn (hst.run pins s3 σ H3 (fun o H4 => o = some (-1) ∧ H4 = H3) I3 ⟨1, rfl, -1, rfl, rfl, rfl⟩) fun vs s4 ⟨o, H4, I4, ps, eo, e4⟩ => ?_
  subst eo e4
  have I5 : Inv X pins σ H4 { s4 with heap := s4.heap.push { cls := .type "slice", data := .fields #[vl, vu, vs] } } := I4.kept (t' := s4.toks) fun b ob q => Heap.get?_push_of_some _ q
  obtain ⟨its, r, ht, hz⟩ := I5.tuple hx
  have hlen := r.length
  cases pl
  cases pu
  show wpAny (model X.prog X.w) X.A (subscriptTail e (.Slice none none (some (.UnaryOp .USub (.Constant (.int 1) k p1) p2)) p3) (.ref a) (.ref s4.heap.objs.size)) (EP X pins σ Q) X.xe { s4 with heap := s4.heap.push { cls := .type "slice", data := .fields #[.none, .none, vs] } }
  refine tail_any (ops := [.ref a, .ref s4.heap.objs.size]) ht.typeIs (PyProof.Rows.slot_tuple_getitem.lookup) ?_ (by with_unfolding_all rfl)
  refine SKY.getItem_tuple_rev ht (Heap.IsSliceOf.new _ .none .none vs) ps ?_ (by rw [List.size_toArray]; omega)
  refine ⟨.ref _, _, I5.laid (t' := s4.toks) (o := .tup xs.reverse) (fun b ob q => Heap.get?_push_of_some _ q) (Nat.le_refl _) ?_, rfl, q _ (I5.hok.fresh (Nat.le_refl _))⟩
  exact ⟨by rw [List.length_reverse]; exact hz, _, r.reverse, ⟨_, Heap.get?_push_size _ rfl, rfl, _, rfl⟩⟩
end
def wRevT (we : TDe) : TDe := fun xc rho M Phi => we xc rho M fun d M1 => match tupOf d with
  | some xs => Phi (.tup xs.reverse) M1
  | none => False
section
variable {X : Cx} {T : TabT} {W : WX} {e : Expr} {we : TDe} {k : Nat} {p1 p2 p3 pos : Pos}
theorem ed_revT (he : ED X T W e we) : ED X T W (.Subscript e (.Slice none none (some (.UnaryOp .USub (.Constant (.int 1) k p1) p2)) p3) pos) (wRevT we) := by
  refine ⟨pe_of (pe_revT he.run) ?_⟩
  rintro σ H Q ⟨G, S, rho, xc, Phi, rfl, rel, ge, w, fin⟩
  refine ⟨G, S, rho, xc, _, rfl, rel, ge, w, fun d S1 x w1 s1 rel1 r1 => ?_⟩
  cases ht : tupOf d with
  | none => rw [ht] at w1; exact w1.elim
  | some xs =>
    rw [ht] at w1
    obtain ⟨a, vs, rfl, sq, rs, hl⟩ := r_tup r1 ht
    refine ⟨a, vs, rfl, sq, fun p hp => ?_⟩
    have s2 : Step S1 (S1.lay p (.tup vs.reverse)) := Step.lay hp
    exact fin (.tup xs.reverse) (S1.lay p (.tup vs.reverse)) _ w1 (s1.trans s2) (rel1.step' s2 (rel1.ok.lay hp)) (.tup (.inl ⟨notO_of_free (S := S1) rel1.ok hp, upd_same⟩) (by rw [List.length_reverse]; exact hl) (s2.rps rs.reverse))
end
def k1_wRevT (Phi : D → List D → Prop) : D → List D → Prop := fun d M1 => match tupOf d with
  | some xs => Phi (.tup xs.reverse) M1
  | none => False
@[simp ↓] theorem s_k1_wRevT (Phi : D → List D → Prop) (d : D) (M1 : List D) : k1_wRevT Phi d M1 = (match tupOf d with
  | some xs => Phi (.tup xs.reverse) M1
  | none => False) := propext Iff.rfl
@[simp ↓] theorem s_wRevT (we : TDe) (xc : XC) (rho : Rho) (M : List D) (Phi : D → List D → Prop) : wRevT we xc rho M Phi = we xc rho M (k1_wRevT Phi) := propext Iff.rfl
end DL
namespace SKY
open PySem PySem.Spec PyProof.Rows
set_option maxHeartbeats 1000000 in
theorem meets_enumerate_newB1 {v : Value} {o : Obj} {H : Heap → Prop} (B : Begins v o H) :
    Meets (Builtin.«enumerate.__new__» ⟨[.type "enumerate", v], []⟩) (fun _ R s => H s.heap ∧
      R (.ok (.ret (.ref (s.heap.push o).objs.size))) { s with heap := (s.heap.push o).push { cls := .type "enumerate", data := .fields #[.none, .bool false, .ref s.heap.objs.size, rawInt 0, .none, .none] } }) :=
  .of_wp fun prog w A R s h => by
    obtain ⟨hp, g, d, tk, os⟩ := s; obtain ⟨h1, h⟩ := h
    have hsub := sub_enumerate
    have q1 : ∀ {A' : Around} {E : Value → Shared → Prop} {Q : Value → Shared → Prop}, Q (.ref hp.objs.size) ⟨hp.push o, g, d, tk, os⟩ → wpAny (model prog w) A' (pyIter v) Q E ⟨hp, g, d, tk, os⟩ :=
      fun q => B.iter prog w _ _ ⟨hp, g, d, tk, os⟩ _ h1 q
    wp_walk using q1
    refine wpAny_stack_any fun st => wpAny_pure ?_
    split
    · rename_i c _ _ _ _ _
      cases (c == Value.type "enumerate")
      · wp_walk using q1
        exact ⟨_, rfl, h⟩
      · wp_walk using q1
        exact ⟨_, rfl, h⟩
    · wp_walk using q1
      exact ⟨_, rfl, h⟩
section
variable {prog : Program} {w : World} {A : Around} {E : Value → Shared → Prop} {s : Shared}
theorem enum_begins1 {v : Value} {o : Obj} {H : Heap → Prop} {Q : Value → Shared → Prop} (B : Begins v o H) (h1 : H s.heap)
    (h : ∀ h', IsEnum h' (s.heap.objs.size + 1) s.heap.objs.size 0 .none → h'.get? s.heap.objs.size = some o → h'.objs.size = s.heap.objs.size + 2 →
      (∀ b o, s.heap.get? b = some o → h'.get? b = some o) → Q (.ref (s.heap.objs.size + 1)) { s with heap := h' }) :
    wpAny (model prog w) A (call (.type "enumerate") [v]) Q E s := by
  refine callType_new F.called_enumerate (by decide) (F.typeCall_enumerate_1 _) (F.newCall_enumerate_1 _) (fun obj => F.args_object_init_2 obj _) F.entry_enumerate_new
    (meets_enumerate_newB1 B) ⟨h1, ?_⟩
  have hz : (s.heap.push o).objs.size = s.heap.objs.size + 1 := Heap.size_push ..
  show _ ∧ _
  rw [hz]
  have he : IsEnum ((s.heap.push o).push { cls := .type "enumerate", data := .fields #[.none, .bool false, .ref s.heap.objs.size, rawInt 0, .none, .none] }) (s.heap.objs.size + 1) s.heap.objs.size 0 .none := by
    have := Heap.get?_push_size (s.heap.push o) (o := { cls := .type "enumerate", data := .fields #[.none, .bool false, .ref s.heap.objs.size, rawInt 0, .none, .none] }) rfl
    rw [hz] at this; exact this
  refine ⟨⟨_, he, rfl⟩, h _ he (Heap.get?_push_of_some _ (Heap.get?_push_size _ B.free)) (by rw [Heap.size_push, hz]) fun b o x => Heap.get?_push_of_some _ (Heap.get?_push_of_some _ x)⟩
end
end SKY
namespace DL
open PySem L2
/-! ### enumerate -/
def ItE (K : PySem.W.Frag) (t : Bool) (a : Addr) : It :=
  ⟨fun i H => ∃ (xs : List V) (x : V), SqK K H t a xs ∧ xs[i]? = some x,
   fun i H v H' => ∃ p x, v = .ref p ∧ H p = none ∧ H' = upd H p (.tup [.int (i : Nat), x]) ∧ ∀ xs, SqK K H t a xs → xs[i]? = some x,
   fun i H => ∃ xs : List V, SqK K H t a xs ∧ i = xs.length⟩
section
variable {P : Program} {w : World} {K : PySem.W.Frag} {elts : List Expr} {kk : Nat} {tpos : Pos} {t : Bool} {a e it : Addr}
theorem turnE (na : a ≠ it) (ne : e ≠ it) (nea : e ≠ a) : Turn P w K (.Tuple elts kk tpos) (ItE K t a) [e, it] e
    (fun n h => (∃ old, IsEnum h e it ((n : Nat) : Int) old) ∧ HIt h t it a n) where
  mem := by simp
  obj := by
    rintro n h ⟨⟨old, c1⟩, c4⟩ c hc
    have hc' : c = e ∨ c = it := by simpa using hc
    rcases hc' with rfl | rfl
    · exact ⟨_, c1, fun v e => nomatch e⟩
    · exact c4.obj
  keep := by
    rintro n h h' ⟨⟨old, c1⟩, c4⟩ kp
    exact ⟨⟨old, kp e (by simp) _ c1⟩, c4.at' fun o e => kp it (by simp) o e⟩
  item := by
    intro X hP hw hK hc n pins s σ H E I hf st hg
    subst hP hw hK
    obtain ⟨⟨old, c1⟩, c4⟩ := st
    obtain ⟨xs, x, qx, hx⟩ := hg
    obtain ⟨as, ra, pa, _⟩ := sqk_raw I qx
    obtain ⟨v1, hv1, r1⟩ := ra.get hx
    have hh : X.A.in1.handled = none := I.ok.hd hc
    have zl : e < s.heap.objs.size := Heap.lt_size c1
    have n1 : n < as.toArray.size := by rw [List.size_toArray]; exact (List.getElem?_eq_some_iff.mp hv1).1
    refine PySem.wpAny_pyNext_enum_itemC (drawsK t hh it a na as.toArray) c1 ⟨c4, pa⟩ n1 ne (by simp [ne, nea]) fun u1 g tk e1 d1 d3 d5 d6 kp => ?_
    have e1' : as[n]? = some u1 := by simpa using e1
    rw [hv1] at e1'
    cases e1'
    refine ⟨_, rfl, wpAny_letOwnedTupleGo_enum (s := { s with heap := g, toks := tk + 1 }) d1 fun g2 d1' sb => ?_⟩
    have dT : g2.get? s.heap.objs.size = some { cls := .type "tuple", data := .seq #[.int (n : Nat) tk, v1] } := (sb.2 _ (Nat.ne_of_gt zl)).trans d5
    have J : Inv X pins σ (upd H s.heap.objs.size (.tup [.int (n : Nat), x])) { s with heap := g2, toks := tk + 1 } := by
      refine I.turnedNew (ch := [e, it]) (fun c o hb q => ?_) hf (Nat.le_refl _) ⟨by show 2 ≤ sizeLine; decide, [.int (n : Nat) tk, v1], .cons ⟨_, rfl⟩ (.cons r1 .nil), ⟨_, dT, rfl, _, rfl⟩⟩
      have nz : c ≠ e := fun e => hb (by simp [e])
      exact (sb.2 c nz).trans (kp c o nz (fun e => hb (by simp [e])) q)
    refine ⟨.ref s.heap.objs.size, _, J, rfl, ⟨_, x, rfl, I.hok.fresh (Nat.le_refl _), rfl, fun l hl => by rw [sqk_inj I hl qx]; exact hx⟩, ⟨⟨v1, ?_⟩, ?_⟩, fun c hcm => ?_⟩
    · have e1 : ((n + 1 : Nat) : Int) = (n : Int) + 1 := by omega
      rw [e1]; exact d1'
    · exact d3.1.at' fun o e => (sb.2 _ (Ne.symm ne)).trans e
    · have lt : c < s.heap.objs.size := by
        have hc' : c = e ∨ c = it := by simpa using hcm
        rcases hc' with rfl | rfl
        · exact zl
        · obtain ⟨o, e, _⟩ := c4.obj; exact Heap.lt_size e
      rw [upd_ne (Nat.ne_of_lt lt)]
      exact (hf c hcm).1
  done := by
    intro X hP hw hK hc n pins s σ H E I hf st hg
    subst hP hw hK
    obtain ⟨⟨old, c1⟩, c4⟩ := st
    obtain ⟨xs, qx, l1⟩ := hg
    obtain ⟨as, ra, pa, _⟩ := sqk_raw I qx
    have e1 : as.toArray.size = xs.length := by rw [List.size_toArray, ra.length]
    have hh : X.A.in1.handled = none := I.ok.hd hc
    have c4' : HIt s.heap t it a as.toArray.size := by rw [e1, ← l1]; exact c4
    refine wpAny_pyNext_enum_endD (drawsK t hh it a na as.toArray) c1 ⟨c4', pa⟩ fun g kp => ⟨rfl, ?_⟩
    exact I.turnedL (t' := s.toks) (ch := [e, it]) (fun c o hb q => kp c o (fun e => hb (by simp [e])) q) hf
  self := fun A n s Q E st q => let ⟨⟨_, he⟩, _⟩ := st; wpAny_pyIter_enum he q
end
def iE (K : PySem.W.Frag) (ta : TA) : TI := fun σ H RR => ta σ H fun vs H1 => ∃ t a xs, vs = [.ref a] ∧ SqK K H1 t a xs ∧ RR (ItE K t a) H1
open PySem.Spec PyProof.Rows in
theorem pi_E {X : Cx} {e : Expr} {ta : TA} {p pos tpos : Pos} {elts : List Expr} {kk : Nat} (hg : Gl X "enumerate") (hm : X.mg "enumerate" = none) (ha : PA X [e] ta)
    (hs : starEach [e] X.env = (false, eval e X.env) :: starEach [] X.env := by rfl) (hpl : (backTo pos (starEach [] X.env)).any (·.1) = false := by rfl) :
    PI X (.Tuple elts kk tpos) (.Call (.Name "enumerate" p) [e] [] pos) (iE X.K ta) := by
  refine ⟨fun pins s σ H RR I h => Call_ (ld_blt I hg hm boot_enumerate (PyProof.Rows.callWith_type1 (thn (ha.run pos pins s σ H _ I h) fun us s1 ⟨vs, H1, I1, r1, q1⟩ => ?_) hs hpl))⟩
  obtain ⟨t, a, xs, ev, qa, q⟩ := q1
  subst ev
  cases r1 with
  | cons r rr =>
    cases rr; cases r
    obtain ⟨as, _, pa, la⟩ := sqk_raw I1 qa
    refine SKY.enum_begins1 (beginsK t a as.toArray) pa fun g c1 c4 sz kp => wpAny_pyIter_enum c1 ?_
    refine ⟨s1.heap.objs.size + 1, _, _, ItE X.K t a, H1, rfl, I1.kept (t' := s1.toks) kp, turnE (Nat.ne_of_lt la) (Nat.succ_ne_self _) (Nat.ne_of_gt (Nat.lt_succ_of_lt la)), ⟨⟨_, c1⟩, HIt.new t c4⟩, fun c hcm => ?_, q⟩
    have le : s1.heap.objs.size ≤ c := by
      have hc' : c = s1.heap.objs.size + 1 ∨ c = s1.heap.objs.size := by simpa using hcm
      rcases hc' with rfl | rfl <;> first | exact Nat.le_add_right _ _ | exact Nat.le_refl _
    exact I1.fpOk le (I1.hok.fresh le)
def enumD (xs : List D) : List D := List.zipWith (fun (i : Nat) d => .tup [.int i, d]) (List.range xs.length) xs
theorem enumD_get {xs : List D} {i : Nat} {d : D} (h : (enumD xs)[i]? = some d) : ∃ x, xs[i]? = some x ∧ d = .tup [.int (i : Nat), x] := by
  unfold enumD at h
  rw [List.getElem?_zipWith] at h
  cases hx : xs[i]? with
  | none => rw [hx] at h; split at h <;> simp_all
  | some x =>
    rw [hx, List.getElem?_range (List.getElem?_eq_some_iff.mp hx).1] at h
    exact ⟨x, rfl, (Option.some.inj h).symm⟩
theorem enumD_len (xs : List D) : (enumD xs).length = xs.length := by unfold enumD; rw [List.length_zipWith, List.length_range, Nat.min_self]
def wEnum (wa : TDe) : TDi := fun xc rho M Phi => wa xc rho M fun d M1 => match seqOf M1 d with
  | some xs => xs.length ≤ sizeLine → Phi (enumD xs) (fun M' => seqOf M' d = some xs) M1
  | none => False
section
variable {X : Cx} {T : TabT} {W : WX} {e : Expr} {wa : TDe} {p pos tpos : Pos} {elts : List Expr} {kk : Nat}
theorem id_enum (hg : Gl X "enumerate") (hm : X.mg "enumerate" = none) (ha : ED X T W e wa)
    (hs : starEach [e] X.env = (false, eval e X.env) :: starEach [] X.env := by rfl) (hpl : (backTo pos (starEach [] X.env)).any (·.1) = false := by rfl) :
    ID X T W (.Tuple elts kk tpos) (.Call (.Name "enumerate" p) [e] [] pos) (wEnum wa) := by
  refine ⟨pi_of (pi_E hg hm (pa_cons ha.run pa_nil hs) hs hpl) ?_⟩
  rintro σ H Q ⟨G, S, rho, xc, Phi, rfl, rel, ge, w, fin⟩
  refine ⟨G, S, rho, xc, _, rfl, rel, ge, w, fun d S1 x w1 s1 rel1 r1 => ?_⟩
  cases h1 : seqOf S1.M d with
  | none => rw [h1] at w1; exact w1.elim
  | some xs =>
    rw [h1] at w1
    obtain ⟨t, a, rfl, ⟨vs, sq, rs, l1⟩, f⟩ := r_sqk rel1.ok r1 h1
    refine ⟨t, a, vs, rfl, sq, fin _ _ S1 (w1 l1) s1 rel1 _ fun n S3 O1 c ok3 hM => ?_⟩
    obtain ⟨us, q1, z1⟩ := f S3 O1 c ok3 hM
    refine ⟨fun d hd => ?_, fun hn => ?_⟩
    · obtain ⟨x, hx, rfl⟩ := enumD_get hd
      obtain ⟨v, hv, rv⟩ := z1.get hx
      refine ⟨⟨us, v, q1, hv⟩, fun xv H' yl => ?_⟩
      obtain ⟨pp, x', rfl, hp, rfl, g1⟩ := yl
      have e1 := g1 us q1
      rw [hv] at e1
      cases e1
      have s4 : Step S3 (S3.lay pp (.tup [.int (n : Nat), v])) := Step.lay hp
      refine ⟨S3.lay pp (.tup [.int (n : Nat), v]), rfl, rfl, s4, ok3.lay hp, .tup (.inl ⟨notO_of_free (S := S3) ok3 hp, upd_same⟩) (by show 2 ≤ sizeLine; decide) (s4.rps (.cons (.int _) (.cons rv .nil)))⟩
    · exact ⟨us, q1, by rw [z1.len, hn, enumD_len]⟩
end
def k1_wEnum (Phi : List D → (List D → Prop) → List D → Prop) : D → List D → Prop := fun d M1 => match seqOf M1 d with
  | some xs => xs.length ≤ sizeLine → Phi (enumD xs) (fun M' => seqOf M' d = some xs) M1
  | none => False
@[simp ↓] theorem s_k1_wEnum (Phi : List D → (List D → Prop) → List D → Prop) (d : D) (M1 : List D) : k1_wEnum Phi d M1 = (match seqOf M1 d with
  | some xs => xs.length ≤ sizeLine → Phi (enumD xs) (fun M' => seqOf M' d = some xs) M1
  | none => False) := propext Iff.rfl
@[simp ↓] theorem s_wEnum (wa : TDe) (xc : XC) (rho : Rho) (M : List D) (Phi : List D → (List D → Prop) → List D → Prop) : wEnum wa xc rho M Phi = wa xc rho M (k1_wEnum Phi) := propext Iff.rfl
end DL
namespace DL
open PySem L2 PySem.Spec PyProof.Rows
/-! ### is True, is not True -/
section
variable {X : Cx}
theorem op_isBlD : OpR X (compareOp .Is) (fun x y H Q => ∃ a b, x = .bl a ∧ y = .bl b ∧ Q (.bl (a == b)) H) := by
  intro pins s σ H x y v u Q I rx ry h
  obtain ⟨a, b, rfl, rfl, q⟩ := h
  cases (show v = Value.bool a from rx)
  cases (show u = Value.bool b from ry)
  exact wpAny_is_plain rfl (fin_bl I q (by cases a <;> cases b <;> rfl))
theorem op_notBlD : OpR X (compareOp .IsNot) (fun x y H Q => ∃ a b, x = .bl a ∧ y = .bl b ∧ Q (.bl (!(a == b))) H) := by
  intro pins s σ H x y v u Q I rx ry h
  obtain ⟨a, b, rfl, rfl, q⟩ := h
  cases (show v = Value.bool a from rx)
  cases (show u = Value.bool b from ry)
  exact wpAny_isNot_plain rfl (fin_bl I q (by cases a <;> cases b <;> rfl))
end
def oIsB : Op2 := fun _ a b Psi => match a, b with
  | .bl x, .bl y => Psi (.bl (x == y))
  | _, _ => False
def oIsNotB : Op2 := fun _ a b Psi => match a, b with
  | .bl x, .bl y => Psi (.bl (!(x == y)))
  | _, _ => False
theorem od_isB {K : PySem.W.Frag} : OpD K (fun x y H Q => ∃ a b, x = .bl a ∧ y = .bl b ∧ Q (.bl (a == b)) H) oIsB := by
  intro O0 T S x y a b Psi Q ok ra rb w fin
  cases a <;> first | exact w.elim | skip
  cases b <;> first | exact w.elim | skip
  exact ⟨_, _, rp_bl ra, rp_bl rb, fin _ S _ w rfl (Step.refl S) ok (.bl _)⟩
theorem od_isNotB {K : PySem.W.Frag} : OpD K (fun x y H Q => ∃ a b, x = .bl a ∧ y = .bl b ∧ Q (.bl (!(a == b))) H) oIsNotB := by
  intro O0 T S x y a b Psi Q ok ra rb w fin
  cases a <;> first | exact w.elim | skip
  cases b <;> first | exact w.elim | skip
  exact ⟨_, _, rp_bl ra, rp_bl rb, fin _ S _ w rfl (Step.refl S) ok (.bl _)⟩
@[simp ↓] theorem s_oIsB (M : List D) (x y : Bool) (Psi : D → Prop) : oIsB M (.bl x) (.bl y) Psi = Psi (.bl (x == y)) := propext Iff.rfl
@[simp ↓] theorem s_oIsNotB (M : List D) (x y : Bool) (Psi : D → Prop) : oIsNotB M (.bl x) (.bl y) Psi = Psi (.bl (!(x == y))) := propext Iff.rfl
end DL
namespace DL
open PySem L2 PySem.Spec PyProof.Rows
/-! ### name = {k: v for ..} on one line -/
theorem sw_trueD {kx vx : Expr} {gs : List Comprehension} {scope : Scope} {pos py : Pos} {y : Str} {l : Nat} {env : Env} (hk : env.scope.kind = .function) (hy : env.scope.names.lookup y = some .local) (hl : (py.line == pos.line) = true)
    (ha : (scope.names.any fun (n, k) => n == y && (k == .local || k == .cell)) = false) : swapsWith (.DictComp kx vx gs scope pos) (some (.Name y py)) l env = pure true := by
  have ky : env.kindOf y = some .local := hy
  have hb : env.blockKind = .function := by unfold Env.blockKind; rw [hk]; rfl
  unfold swapsWith
  simp only [hb, ky, ha, Expr.pos, hl]
  rfl
section
variable {X : Cx}
theorem ps_setDc {i : Nat} {y : Str} {py : Pos} {kx vx tg iter : Expr} {ifs : List Expr} {scope : Scope} {own : List (Str × Nat)} {pos spos : Pos} {wi : TI} {g : TG} {tt : TT} {tk tv : TE} (hc : X.calm = true) (hN : X.N.Nodup) (hy : X.N[i]? = some y) (hyl : X.env.scope.names.lookup y = some .local)
    (hsw : swapsWith (.DictComp kx vx [⟨tg, iter, ifs, 0⟩] scope pos) (some (.Name y py)) spos.line X.env = pure true) (hi : PI X tg iter wi) (ok : BlkOk X.N X.env.scope scope own)
    (hg : ∀ (s : Shared) (H : Hp) (C : Addr) (cl : List (Str × Addr)) (fp : List Addr), PG (X.blk s H scope (compEnvC scope cl C X.env) fp) tg g) (ht : ∀ (s : Shared) (H : Hp) (C : Addr) (cl : List (Str × Addr)) (fp : List Addr), PTs (X.blk s H scope (compEnvC scope cl C X.env) fp) ifs tt)
    (hk : ∀ (s : Shared) (H : Hp) (C : Addr) (cl : List (Str × Addr)) (fp : List Addr), PE (X.blk s H scope (compEnvC scope cl C X.env) fp) kx tk)
    (he : ∀ (s : Shared) (H : Hp) (C : Addr) (cl : List (Str × Addr)) (fp : List Addr), PE (X.blk s H scope (compEnvC scope cl C X.env) fp) vx tv) (hs : ∀ x, foldedSetIterable iter X.env x = pure x := by intro _; rfl) :
    PS X (.Assign [.Name y py] (.DictComp kx vx [⟨tg, iter, ifs, 0⟩] scope pos) spos) (tAsg (tDc wi g tt tk tv (own.map (·.2))) (gName i)) := by
  refine ⟨fun pins s σ H D I h => ?_⟩
  rw [exec_Assign_Name_used _ _ _ _ hsw]
  refine wpAny_bind (wpAny_standAt (wpAny_bind ?_))
  show wpAny _ X.A (do let _ ← comprehension (.DictComp kx vx [⟨tg, iter, ifs, 0⟩] scope pos) scope X.env (firstIterPos [⟨tg, iter, ifs, 0⟩] pos) newDict false (eval iter X.env) (some (assign (.Name y py) X.env))) _ _ s
  have h : tDc wi g tt tk tv (own.map (·.2)) σ H (fun x H1 => gName i x σ H1 D.nx) := h
  refine wpAny_bind (thn (dc_core (Qf := fun _ s' => SP X pins D .next s') hc hN I hi ok hg ht hk he hs h fun L C s' m H' I' q hn f => ?_) fun _ s' hq => wpAny_pure (wpAny_pure hq))
  show wpAny _ _ (assign (.Name y py) X.env (.ref L)) _ _ _
  refine wpAny_assign_Name (store_ok2 (v := V.ref L) I' hN hy (.inl hyl) rfl (fun s2 I2 ⟨a, sb, ha⟩ => ?_) (.inr hyl))
  obtain ⟨f0, f1, f2, f3, f4, f5⟩ := f
  have haC : C ≠ a := by
    rcases ha with z | z
    · rw [z]; exact f1
    · exact fun e => f4 y a z e.symm
  refine ⟨m, hn.sameBut sb haC, fun h3 sb3 => ?_⟩
  exact ⟨_, H', I2.turned (t' := s2.toks) (fun b o hb e => (sb3.2 b hb).trans e) f0 f1 f3 f4 f5, q⟩
end
section
variable {X : Cx} {T : TabT} {W : WX} {i : Nat} {y : Str} {py : Pos} {kx vx tg iter : Expr} {ifs : List Expr} {scope : Scope} {own : List (Str × Nat)} {is : List Nat} {pos spos : Pos} {wi : TDi} {g : TDg} {wt : TDt} {wk wv : TDe}
theorem dcsetN (hc : X.calm = true) (nd : X.N.Nodup) (hy : X.N[i]? = some y) (hyl : X.env.scope.names.lookup y = some .local) (hsw : swapsWith (.DictComp kx vx [⟨tg, iter, ifs, 0⟩] scope pos) (some (.Name y py)) spos.line X.env = pure true)
    (hi : ID X T W tg iter wi) (ok : BlkOk X.N X.env.scope scope own)
    (hg : ∀ (s : Shared) (H : Hp) (C : Addr) (cl : List (Str × Addr)) (fp : List Addr), GD (X.blk s H scope (compEnvC scope cl C X.env) fp) T is tg g)
    (ht : ∀ (s : Shared) (H : Hp) (C : Addr) (cl : List (Str × Addr)) (fp : List Addr), EPt (X.blk s H scope (compEnvC scope cl C X.env) fp) T W0 ifs wt)
    (hk : ∀ (s : Shared) (H : Hp) (C : Addr) (cl : List (Str × Addr)) (fp : List Addr), ED (X.blk s H scope (compEnvC scope cl C X.env) fp) T W0 kx wk)
    (he : ∀ (s : Shared) (H : Hp) (C : Addr) (cl : List (Str × Addr)) (fp : List Addr), ED (X.blk s H scope (compEnvC scope cl C X.env) fp) T W0 vx wv)
    (his : ∀ i, i ∈ is → i ∈ own.map (·.2)) (hs : ∀ x, foldedSetIterable iter X.env x = pure x := by intro _; rfl) :
    SD X T W (.Assign [.Name y py] (.DictComp kx vx [⟨tg, iter, ifs, 0⟩] scope pos) spos) (wNew i (wDc wi g wt wk wv (own.map (·.2)))) :=
  sd_newN (ps_setDc hc nd hy hyl hsw hi.run ok (fun s H C cl fp => (hg s H C cl fp).run) (fun s H C cl fp => (ht s H C cl fp).run) (fun s H C cl fp => (hk s H C cl fp).run) (fun s H C cl fp => (he s H C cl fp).run) hs) (ti_dc his)
end
end DL

/-! words: tuple(list) as a tuple known to have no dict, t.index(n) on it -/
namespace DL
open PySem PySem.Spec PyProof.Rows L2
section
variable {X : Cx}
def rTupX (K : PySem.W.Frag) : List V → Hp → VK → Prop := fun xs H Q => ∃ p ys, xs = [.ref p] ∧ SqL K H p ys ∧ ∀ (l : Addr) (o : Obj), H l = none → o.dict = none → Q (.ref l) (upd H l (.frz o (.tup ys)))
theorem call_tupX : CallR X (.type "tuple") (rTupX X.K) := by
  intro pins s σ H xs us Q I r h
  obtain ⟨p, ys, rfl, hq, q⟩ := h
  obtain ⟨u, rfl, rx⟩ := vals1 r
  cases rx
  obtain ⟨its, r', pl, hz⟩ := I.list hq
  have hlen := r'.length
  refine call_tuple_list pl.isList (fun h' kp => ?_) (by simp only [List.size_toArray] <;> omega)
  have I1 : Inv X pins σ H { s with heap := h' } := I.kept (t' := s.toks) kp
  have I2 : Inv X pins σ (upd H h'.objs.size (.frz { cls := .type "tuple", data := .seq its.toArray } (.tup ys))) { s with heap := h'.push { cls := .type "tuple", data := .seq its.toArray } } :=
    I1.laid (t' := s.toks) (fun b o e => Heap.get?_push_of_some _ e) (Nat.le_refl _) (show ObjOk X.prog X.w _ _ _ (.frz _ (.tup ys)) from ⟨Heap.get?_push_size _ rfl, hz, its, r', IsTup.new _ _⟩)
  exact ⟨.ref h'.objs.size, _, I2, rfl, q _ _ (I1.hok.fresh (Nat.le_refl _)) rfl⟩
end
section
variable {K : PySem.W.Frag}
def oTupX : OpA := arg1 fun M a Psi => match lstOf M a with
  | some ds => Psi (.tpx ds)
  | none => False
theorem od_tupX : OpDA K (rTupX K) oTupX := by
  intro O0 T S xs as Psi Q ok rs w fin
  obtain ⟨a, ea, w'⟩ := arg1_some w
  subst ea
  clear w
  have w := w'
  clear w'
  obtain ⟨x, rfl, ra⟩ := rs1 rs
  cases hs : lstOf S.M a with
  | none => rw [hs] at w; exact w.elim
  | some ds =>
    rw [hs] at w
    obtain ⟨p, vs, rfl, sq, rr, hlen⟩ := r_lst ok ra hs
    refine ⟨p, vs, rfl, sq, fun l o hl ho => ?_⟩
    have s2 : Step S (S.lay l (.frz o (.tup vs))) := Step.lay hl
    exact fin _ (S.lay l (.frz o (.tup vs))) _ w rfl s2 (ok.lay hl) (.tpx (notO_of_free (S := S) ok hl) upd_same ho hlen (s2.rps rr))
@[simp ↓] theorem s_oTupX (M : List D) (a : D) (Psi : (D → Prop)) : oTupX M [a] Psi = (match lstOf M a with
  | some ds => Psi (.tpx ds)
  | none => False) := rfl
end
/-! ### t.index(n) -/
section
variable {X : Cx}
def rTix (x : V) (xs : List V) (H : Hp) (Q : VK) : Prop := ∃ (a : Addr) (ob : Obj) (ns : List Int) (n : Int), x = .ref a ∧ H a = some (.frz ob (.tup (ns.map V.int))) ∧ xs = [.int n] ∧ n ∈ ns ∧ Q (.int (ns.idxOf n : Nat)) H
def tyTix (x : V) (H : Hp) : Prop := ∃ (a : Addr) (ob : Obj) (ys : List V), x = .ref a ∧ H a = some (.frz ob (.tup ys)) ∧ ob.dict = none
def tTix (to : TE) (t : TA) : TE := fun σ H Q => to σ H fun x H1 => tyTix x H1 ∧ t σ H1 fun xs H2 => rTix x xs H2 Q
theorem tyTix_is {pins : List (Addr × Obj)} {σ : L2.St} {H : Hp} {s : Shared} {x : V} {v : Value} (I : Inv X pins σ H s) (r : RelV x v) (ty : tyTix x H) :
    s.TypeIs v "tuple" ∧ ∀ a, v = .ref a → ∃ ob, s.heap.get? a = some ob ∧ ob.dict = none := by
  obtain ⟨a, ob, ys, rfl, hh, hd⟩ := ty
  cases r
  obtain ⟨e, _, its, _, it⟩ := I.hok a _ hh
  refine ⟨it.typeIs, fun b eb => ?_⟩
  cases eb
  exact ⟨ob, e, hd⟩
theorem mt_tix : MtR X "tuple.index" (fun x xs H Q => rTix x xs H Q) := by
  intro pins s σ H x xs v us Q I rx rxs h
  obtain ⟨a, ob, ns, n, rfl, hh, rfl, hn, q⟩ := h
  cases rx
  obtain ⟨u, rfl, ru⟩ := Vals.one rxs
  obtain ⟨t, rfl⟩ := ru
  obtain ⟨e, _, its, rv, it⟩ := I.hok a _ hh
  exact PySem.SeqAt.tuple_index_ints it rv.ints hn ⟨V.int _, H, I.kept (t' := s.toks + 1) (fun _ _ z => z), ⟨_, rfl⟩, q⟩
variable {o e : Expr} {es : List Expr} {to : TE} {t : TA} {apos cpos : Pos}
theorem pe_tix (ho : PE X o to) (ha : PA X (e :: es) t)
    (hbase : attributeBase o "index" X.env (eval o X.env) = eval o X.env := by rfl)
    (hfew : ((backTo cpos (starEach (e :: es) X.env)).all (fun x => !x.1) && (backToKw cpos (keywordEach [] X.env)).all (fun x => x.1.isSome)
      && decide ((e :: es).length + ([] : List Keyword).length + (if ([] : List Keyword).isEmpty then 0 else 1) < 30)) = true := by rfl)
    (hline : (apos.endLine == cpos.line) = true := by rfl) (hs : starEach (e :: es) X.env = (false, eval e X.env) :: starEach es X.env := by rfl) (hplain : (backTo cpos (starEach es X.env)).any (·.1) = false := by rfl) :
    PE X (.Call (.Attribute o "index" apos) (e :: es) [] cpos) (tTix to t) := by
  refine ⟨fun pins s σ H Q I h => ?_⟩
  refine wpAny_Call_method_late hbase hfew hline rfl (thn (ho.run pins s σ H _ I h) fun v s1 ⟨x, H1, I1, r1, ty, q1⟩ => ?_)
  obtain ⟨h1, h2⟩ := tyTix_is I1 r1 ty
  refine ⟨"tuple", "tuple.index", PySem.F.plainAttrs_tuple, PySem.F.slot_tuple_index, PySem.F.type_tuple_index, h1, h2, ?_⟩
  have hA := ha.run cpos pins s1 σ H1 _ I1 q1
  rw [hs] at hA ⊢
  refine Calls.callWith_builtin (by show (false || (backTo cpos (starEach es X.env)).any (·.1)) = false; rw [hplain] <;> rfl) (Calls.evalArgs_plain ?_)
  exact thn hA fun us s2 ⟨vs, H2, I2, r2, q2⟩ => mt_tix pins s2 σ H2 x vs v us Q I2 r1 r2 q2
end
section
theorem rps_ints {H : Hp} {O : Av} {mu : Nat → Addr} {n : Nat} {K : PySem.W.Frag} : ∀ {ns : List Int} {vs : List V}, Rps K H O mu n vs (ns.map D.int) → vs = ns.map V.int
  | [], _, .nil => rfl
  | m :: ns, _, .cons r t => by
    rw [List.map_cons, ← rps_ints t]
    exact congrArg (· :: _) (rp_int r)
variable {X : Cx} {T : TabT} {W : WX} {o e : Expr} {wo wi : TDe} {apos pos : Pos}
def wTix (wo wi : TDe) : TDe := fun xc rho M Phi => wo xc rho M fun d M1 => (match d with | .tpx _ => True | _ => False) ∧ wi xc rho M1 fun y M2 => match d with
  | .tpx ds => (match intsD ds with
    | some ns => isI (fun i => i ∈ ns ∧ Phi (.int (ns.idxOf i : Nat)) M2) y
    | none => False)
  | _ => False
theorem ed_tix (ho : ED X T W o wo) (he : ED X T W e wi)
    (h : ∀ (to : TE) (t : TA), PE X o to → PA X [e] t → PE X (.Call (.Attribute o "index" apos) [e] [] pos) (tTix to t))
    (hs : starEach (e :: []) X.env = (false, eval e X.env) :: starEach [] X.env := by rfl) : ED X T W (.Call (.Attribute o "index" apos) [e] [] pos) (wTix wo wi) := by
  refine ⟨pe_of (h _ _ ho.run (pa_cons he.run pa_nil hs)) ?_⟩
  rintro σ H Q ⟨G, S, rho, xc, Phi, rfl, rel, ge, w, fin⟩
  refine ⟨G, S, rho, xc, _, rfl, rel, ge, w, fun d S1 x w1 s1 rel1 r1 => ?_⟩
  obtain ⟨w0, w1⟩ := w1
  cases d with
  | tpx ds =>
    obtain ⟨p, vs, ob, rfl, n1, hh, hd, rr, hl⟩ := rp_tpx r1
    refine ⟨⟨p, ob, vs, rfl, hh, hd⟩, ?_⟩
    refine ⟨G, S1, rho, xc, _, rfl, rel1, ge, w1, fun y S2 v w2 s2 rel2 r2 => ?_⟩
    obtain ⟨p', vs', ob', e1, n1', hh', hd', rr', hl'⟩ := rp_tpx (s2.rp r1)
    cases e1
    cases hi : intsD ds with
    | none => simp only [hi] at w2
    | some ns =>
      simp only [hi] at w2
      obtain ⟨i, rfl, hm, w3⟩ := isI_some w2
      rw [rp_int r2]
      have e2 := intsD_some hi
      subst e2
      have e3 := rps_ints rr'
      subst e3
      exact ⟨p, ob', ns, i, rfl, hh', rfl, hm, fin _ S2 _ w3 (s1.trans s2) rel2 (.int _)⟩
  | _ => exact w0.elim
def k1_wTix (wi : TDe) (xc : XC) (rho : Rho) (Phi : D → List D → Prop) : D → List D → Prop := fun d M1 => (match d with | .tpx _ => True | _ => False) ∧ wi xc rho M1 fun y M2 => match d with
  | .tpx ds => (match intsD ds with
    | some ns => isI (fun i => i ∈ ns ∧ Phi (.int (ns.idxOf i : Nat)) M2) y
    | none => False)
  | _ => False
@[simp ↓] theorem s_wTix (wo wi : TDe) (xc : XC) (rho : Rho) (M : List D) (Phi : (D → List D → Prop)) : wTix wo wi xc rho M Phi = (wo xc rho M (k1_wTix wi xc rho Phi)) := propext Iff.rfl
@[simp ↓] theorem s_k1_wTix (wi : TDe) (xc : XC) (rho : Rho) (Phi : D → List D → Prop) (ds : List D) (M1 : List D) : k1_wTix wi xc rho Phi (.tpx ds) M1 = (wi xc rho M1 fun y M2 => match intsD ds with
    | some ns => isI (fun i => i ∈ ns ∧ Phi (.int (ns.idxOf i : Nat)) M2) y
    | none => False) := propext ⟨fun h => h.2, fun h => ⟨trivial, h⟩⟩
end
/-! ### a slice of any tuple -/
section
variable {K : PySem.W.Frag} {X : Cx}
def whD (ds : List D) (lo hi : Option Int) : Prop := HT.sIx ds.length 0 lo = 0 ∧ HT.sIx ds.length ds.length hi = ds.length
instance (ds : List D) (lo hi : Option Int) : Decidable (whD ds lo hi) := inferInstanceAs (Decidable (_ ∧ _))
def slX (a : D) (ds : List D) (lo hi : Option Int) : D := if whD ds lo hi then a else .tup (cutD ds lo hi)
def oSlX : OpS := fun M a lo hi Psi => match tupOf a with
  | some ds => Psi (slX a ds lo hi)
  | none => False
theorem od_slX : OpDS K (rSl K) oSlX := by
  intro O0 T S x a lo hi Psi Q ok ra w fin
  unfold oSlX at w
  cases ht : tupOf a with
  | none => rw [ht] at w; exact w.elim
  | some ds =>
    rw [ht] at w
    obtain ⟨p, vs, rfl, sq, rs, hlen⟩ := r_tup ra ht
    have w : Psi (slX a ds lo hi) := w
    unfold slX at w
    by_cases hw : whD ds lo hi
    · rw [if_pos hw] at w
      refine .inl ⟨p, vs, rfl, sq, fun e => ?_, fun hn l hl => ?_⟩
      · exact fin _ S _ w rfl (Step.refl S) ok ra
      · exact absurd (by unfold whD at hw; rw [← rs.len] at hw; exact hw) hn
    · rw [if_neg hw] at w
      refine .inl ⟨p, vs, rfl, sq, fun e => ?_, fun _ l hl => ?_⟩
      · exact absurd (by unfold whD; rw [← rs.len]; exact e) hw
      · have s2 : Step S (S.lay l (.tup (cutV vs lo hi))) := Step.lay hl
        exact fin _ (S.lay l (.tup (cutV vs lo hi))) _ w rfl s2 (ok.lay hl) (.tup (.inl ⟨notO_of_free (S := S) ok hl, upd_same⟩) (Nat.le_trans (cutD_len ds lo hi) hlen) (s2.rps (rs.cut lo hi)))
@[simp ↓] theorem s_oSlX (M : List D) (a : D) (lo hi : Option Int) (Psi : D → Prop) : oSlX M a lo hi Psi = (match tupOf a with
  | some ds => Psi (slX a ds lo hi)
  | none => False) := rfl
theorem whD_cut {ds : List D} {lo hi : Option Int} (h : whD ds lo hi) : cutD ds lo hi = ds := by
  unfold cutD
  rw [h.1, h.2, Nat.sub_zero, List.drop_zero, List.take_length]
@[simp] theorem seq_slX (M : List D) (a : D) (ds : List D) (lo hi : Option Int) (h : seqOf M a = some ds) : seqOf M (slX a ds lo hi) = some (cutD ds lo hi) := by
  unfold slX
  split
  · rename_i hw
    rw [whD_cut hw, h]
  · rfl
end
end DL

namespace K72
open PySem L2 DL
open PyProof.Rows (envOfC)

def top (i : Nat) : Stmt := PySem.Challenge.pw_bymiddles_k72_whole_regret_by_own_stretc.main.body.getD i (.Pass ⟨0, 0, 0, 0⟩)
abbrev s_is_integer : Stmt := top 7
theorem sc_is_integer : FnScope ["thing"] ["thing"] (defScope s_is_integer) := ⟨rfl, rfl, rfl, by decide +kernel, rfl, by decide +kernel, by decide +kernel⟩
abbrev s_is_within : Stmt := top 8
theorem sc_is_within : FnScope ["thing", "least", "most"] ["thing", "least", "most"] (defScope s_is_within) := ⟨rfl, rfl, rfl, by decide +kernel, rfl, by decide +kernel, by decide +kernel⟩
abbrev s_is_pair : Stmt := top 9
theorem sc_is_pair : FnScope ["thing"] ["thing"] (defScope s_is_pair) := ⟨rfl, rfl, rfl, by decide +kernel, rfl, by decide +kernel, by decide +kernel⟩
abbrev s_are_ascending : Stmt := top 10
theorem sc_are_ascending : FnScope ["numbers", "one", "other"] ["numbers"] (defScope s_are_ascending) := ⟨rfl, rfl, rfl, by decide +kernel, rfl, by decide +kernel, by decide +kernel⟩
abbrev s_is_window : Stmt := top 14
theorem sc_is_window : FnScope ["thing"] ["thing"] (defScope s_is_window) := ⟨rfl, rfl, rfl, by decide +kernel, rfl, by decide +kernel, by decide +kernel⟩
abbrev s_Book_init : Stmt := inClass (top 15) 0
theorem sc_Book_init : FnScope ["self", "windows", "window"] ["self", "windows"] (defScope s_Book_init) := ⟨rfl, rfl, rfl, by decide +kernel, rfl, by decide +kernel, by decide +kernel⟩
abbrev s_RawBook_init : Stmt := inClass (top 16) 0
theorem sc_RawBook_init : FnScope ["self", "windows"] ["self", "windows"] (defScope s_RawBook_init) := ⟨rfl, rfl, rfl, by decide +kernel, rfl, by decide +kernel, by decide +kernel⟩
abbrev s_raw_book : Stmt := top 17
theorem sc_raw_book : FnScope ["windows"] ["windows"] (defScope s_raw_book) := ⟨rfl, rfl, rfl, by decide +kernel, rfl, by decide +kernel, by decide +kernel⟩
abbrev s_many_of : Stmt := top 18
theorem sc_many_of : FnScope ["book"] ["book"] (defScope s_many_of) := ⟨rfl, rfl, rfl, by decide +kernel, rfl, by decide +kernel, by decide +kernel⟩
abbrev s_first_of : Stmt := top 19
theorem sc_first_of : FnScope ["book", "work"] ["book", "work"] (defScope s_first_of) := ⟨rfl, rfl, rfl, by decide +kernel, rfl, by decide +kernel, by decide +kernel⟩
abbrev s_last_of : Stmt := top 20
theorem sc_last_of : FnScope ["book", "work"] ["book", "work"] (defScope s_last_of) := ⟨rfl, rfl, rfl, by decide +kernel, rfl, by decide +kernel, by decide +kernel⟩
abbrev s_is_work : Stmt := top 21
theorem sc_is_work : FnScope ["book", "thing"] ["book", "thing"] (defScope s_is_work) := ⟨rfl, rfl, rfl, by decide +kernel, rfl, by decide +kernel, by decide +kernel⟩
abbrev s_is_row : Stmt := top 22
theorem sc_is_row : FnScope ["book", "thing", "work"] ["book", "thing"] (defScope s_is_row) := ⟨rfl, rfl, rfl, by decide +kernel, rfl, by decide +kernel, by decide +kernel⟩
abbrev s_is_order : Stmt := top 23
theorem sc_is_order : FnScope ["book", "thing"] ["book", "thing"] (defScope s_is_order) := ⟨rfl, rfl, rfl, by decide +kernel, rfl, by decide +kernel, by decide +kernel⟩
abbrev s_is_group : Stmt := top 24
theorem sc_is_group : FnScope ["book", "thing"] ["book", "thing"] (defScope s_is_group) := ⟨rfl, rfl, rfl, by decide +kernel, rfl, by decide +kernel, by decide +kernel⟩
abbrev s_check_order : Stmt := top 25
theorem sc_check_order : FnScope ["book", "thing"] ["book", "thing"] (defScope s_check_order) := ⟨rfl, rfl, rfl, by decide +kernel, rfl, by decide +kernel, by decide +kernel⟩
abbrev s_check_group : Stmt := top 26
theorem sc_check_group : FnScope ["book", "thing"] ["book", "thing"] (defScope s_check_group) := ⟨rfl, rfl, rfl, by decide +kernel, rfl, by decide +kernel, by decide +kernel⟩
abbrev s_part : Stmt := top 27
theorem sc_part : FnScope ["book", "group", "work"] ["book", "group"] (defScope s_part) := ⟨rfl, rfl, rfl, by decide +kernel, rfl, by decide +kernel, by decide +kernel⟩
abbrev s_shifted : Stmt := top 28
theorem sc_shifted : FnScope ["book", "by", "first", "last"] ["book", "by"] (defScope s_shifted) := ⟨rfl, rfl, rfl, by decide +kernel, rfl, by decide +kernel, by decide +kernel⟩
abbrev s_mirrored : Stmt := top 29
theorem sc_mirrored : FnScope ["book", "top", "first", "last"] ["book"] (defScope s_mirrored) := ⟨rfl, rfl, rfl, by decide +kernel, rfl, by decide +kernel, by decide +kernel⟩
abbrev s_widest_of : Stmt := top 31
theorem sc_widest_of : FnScope ["book", "works", "early", "late", "best", "one", "other", "hours", "work"] ["book", "works"] (defScope s_widest_of) := ⟨rfl, rfl, rfl, by decide +kernel, rfl, by decide +kernel, by decide +kernel⟩
abbrev s_worst_behind : Stmt := top 32
theorem sc_worst_behind : FnScope ["book", "row", "best", "last", "place", "hours", "one", "other"] ["book", "row"] (defScope s_worst_behind) := ⟨rfl, rfl, rfl, by decide +kernel, rfl, by decide +kernel, by decide +kernel⟩
abbrev s_regret_in : Stmt := top 33
theorem sc_regret_in : FnScope ["book", "order", "best", "place", "found"] ["book", "order"] (defScope s_regret_in) := ⟨rfl, rfl, rfl, by decide +kernel, rfl, by decide +kernel, by decide +kernel⟩
abbrev s_regret : Stmt := top 34
theorem sc_regret : FnScope ["book", "order"] ["book", "order"] (defScope s_regret) := ⟨rfl, rfl, rfl, by decide +kernel, rfl, by decide +kernel, by decide +kernel⟩
abbrev s_L_law_pool : Stmt := top 36
theorem sc_L_law_pool : FnScope ["_law_script", "_law_seed", "_law_cell"] ["_law_script"] (defScope s_L_law_pool) := ⟨rfl, rfl, rfl, by decide +kernel, rfl, by decide +kernel, by decide +kernel⟩
abbrev s_L_law_draw : Stmt := top 37
theorem sc_L_law_draw : FnScope ["_law_pool_here", "_law_many", "_law_cells", "_law_mixed", "_law_digit"] ["_law_pool_here", "_law_many"] (defScope s_L_law_draw) := ⟨rfl, rfl, rfl, by decide +kernel, rfl, by decide +kernel, by decide +kernel⟩
abbrev s_L_law_windows : Stmt := top 38
theorem sc_L_law_windows : FnScope ["_law_pool_here", "_law_many", "_law_top", "_law_kind", "_law_found", "_law_middle", "_law_k", "_law_one", "_law_other"] ["_law_pool_here", "_law_many", "_law_top"] (defScope s_L_law_windows) := ⟨rfl, rfl, rfl, by decide +kernel, rfl, by decide +kernel, by decide +kernel⟩
abbrev s_L_law_row : Stmt := top 39
theorem sc_L_law_row : FnScope ["_law_pool_here", "_law_works", "_law_left", "_law_k"] ["_law_pool_here", "_law_works"] (defScope s_L_law_row) := ⟨rfl, rfl, rfl, by decide +kernel, rfl, by decide +kernel, by decide +kernel⟩
abbrev s_L_law_some : Stmt := top 40
theorem sc_L_law_some : FnScope ["_law_pool_here", "_law_many", "_law_of", "_law_work"] ["_law_pool_here", "_law_many"] (defScope s_L_law_some) := ⟨rfl, rfl, rfl, by decide +kernel, rfl, by decide +kernel, by decide +kernel⟩
abbrev s_L_law_is_int : Stmt := top 41
theorem sc_L_law_is_int : FnScope ["_law_thing"] ["_law_thing"] (defScope s_L_law_is_int) := ⟨rfl, rfl, rfl, by decide +kernel, rfl, by decide +kernel, by decide +kernel⟩
abbrev s_L_law_regret : Stmt := top 42
theorem sc_L_law_regret : FnScope ["_law_windows_here", "_law_order_here", "_law_best", "_law_begin", "_law_end", "_law_works", "_law_edge", "_law_one", "_law_other"] ["_law_windows_here", "_law_order_here"] (defScope s_L_law_regret) := ⟨rfl, rfl, rfl, by decide +kernel, rfl, by decide +kernel, by decide +kernel⟩
abbrev s_L_law_right : Stmt := top 43
theorem sc_L_law_right : FnScope ["_law_book", "_law_order_here", "_law_due", "_law_told"] ["_law_book", "_law_order_here", "_law_due"] (defScope s_L_law_right) := ⟨rfl, rfl, rfl, by decide +kernel, rfl, by decide +kernel, by decide +kernel⟩
abbrev s_L_law_order : Stmt := top 44
theorem sc_L_law_order : FnScope ["_law_pool_here", "_law_windows_here", "_law_row_here", "_law_work"] ["_law_pool_here", "_law_windows_here"] (defScope s_L_law_order) := ⟨rfl, rfl, rfl, by decide +kernel, rfl, by decide +kernel, by decide +kernel⟩
abbrev s_law : Stmt := top 45
theorem sc_law : FnScope ["_law_script", "_law_pool_here", "_law_many", "_law_windows_here", "_law_book", "_law_turned", "_law_later", "_law_turn", "_law_order_here", "_law_due", "_law_group", "_law_less", "_law_told", "_law_work"] ["_law_script"] (defScope s_law) := ⟨rfl, rfl, rfl, by decide +kernel, rfl, by decide +kernel, by decide +kernel⟩
/-- where the classes and the defs lie -/
structure CA where
  MiddleError : Addr
  BadBook : Addr
  NoGroup : Addr
  NoNumber : Addr
  NoOrder : Addr
  Book : Addr
  RawBook : Addr
  f_is_integer : Addr
  fd_is_integer : FuncData
  f_is_within : Addr
  fd_is_within : FuncData
  f_is_pair : Addr
  fd_is_pair : FuncData
  f_are_ascending : Addr
  fd_are_ascending : FuncData
  f_is_window : Addr
  fd_is_window : FuncData
  f_Book_init : Addr
  fd_Book_init : FuncData
  f_RawBook_init : Addr
  fd_RawBook_init : FuncData
  f_raw_book : Addr
  fd_raw_book : FuncData
  f_many_of : Addr
  fd_many_of : FuncData
  f_first_of : Addr
  fd_first_of : FuncData
  f_last_of : Addr
  fd_last_of : FuncData
  f_is_work : Addr
  fd_is_work : FuncData
  f_is_row : Addr
  fd_is_row : FuncData
  f_is_order : Addr
  fd_is_order : FuncData
  f_is_group : Addr
  fd_is_group : FuncData
  f_check_order : Addr
  fd_check_order : FuncData
  f_check_group : Addr
  fd_check_group : FuncData
  f_part : Addr
  fd_part : FuncData
  f_shifted : Addr
  fd_shifted : FuncData
  f_mirrored : Addr
  fd_mirrored : FuncData
  f_widest_of : Addr
  fd_widest_of : FuncData
  cc_widest_of : Addr
  cp_widest_of : Addr
  f_worst_behind : Addr
  fd_worst_behind : FuncData
  f_regret_in : Addr
  fd_regret_in : FuncData
  f_regret : Addr
  fd_regret : FuncData
  f_L_law_pool : Addr
  fd_L_law_pool : FuncData
  f_L_law_draw : Addr
  fd_L_law_draw : FuncData
  f_L_law_windows : Addr
  fd_L_law_windows : FuncData
  f_L_law_row : Addr
  fd_L_law_row : FuncData
  f_L_law_some : Addr
  fd_L_law_some : FuncData
  f_L_law_is_int : Addr
  fd_L_law_is_int : FuncData
  f_L_law_regret : Addr
  fd_L_law_regret : FuncData
  f_L_law_right : Addr
  fd_L_law_right : FuncData
  f_L_law_order : Addr
  fd_L_law_order : FuncData
  cc_L_law_order : Addr
  cp_L_law_order : Addr
  f_law : Addr
  fd_law : FuncData
def q_widest_of : Str := (("widest_of" : Str) ++ (".<locals>." : Str)) ++ ("<lambda>" : Str)
def q_L_law_order : Str := (("_law_order" : Str) ++ (".<locals>." : Str)) ++ ("<lambda>" : Str)
def TT (c : CA) : TabT := [(c.cp_widest_of, q_widest_of), (c.cp_L_law_order, q_L_law_order)]
@[simp] theorem nf_kept_windows_windows : (Str.ofString "kept_windows" = Str.ofString "windows") = False := by decide +kernel
theorem bf_kept_windows_windows : (Str.ofString "kept_windows" == Str.ofString "windows") = false := by decide +kernel
@[simp] theorem lf_kept_windows_windows (v : D) (r : List (Str × D)) : List.lookup (Str.ofString "kept_windows") ((Str.ofString "windows", v) :: r) = List.lookup (Str.ofString "kept_windows") r := lk_miss bf_kept_windows_windows v r
@[simp] theorem ln_kept_windows_windows (v : D) (r : List (Str × D)) : lkN (Str.ofString "kept_windows") ((Str.ofString "windows", v) :: r) = lkN (Str.ofString "kept_windows") r := lkN_cons bf_kept_windows_windows v r
@[simp] theorem nf_windows_kept_windows : (Str.ofString "windows" = Str.ofString "kept_windows") = False := by decide +kernel
theorem bf_windows_kept_windows : (Str.ofString "windows" == Str.ofString "kept_windows") = false := by decide +kernel
@[simp] theorem lf_windows_kept_windows (v : D) (r : List (Str × D)) : List.lookup (Str.ofString "windows") ((Str.ofString "kept_windows", v) :: r) = List.lookup (Str.ofString "windows") r := lk_miss bf_windows_kept_windows v r
@[simp] theorem ln_windows_kept_windows (v : D) (r : List (Str × D)) : lkN (Str.ofString "windows") ((Str.ofString "kept_windows", v) :: r) = lkN (Str.ofString "windows") r := lkN_cons bf_windows_kept_windows v r
structure Txt (K : PySem.W.Frag) (mg : Str → Option Value) (base : Heap) (c : CA) : Prop where
  F_is_integer : Fun K "is_integer" "is_integer" s_is_integer c.f_is_integer c.fd_is_integer
  b_is_integer : Binds K c.fd_is_integer ["thing"] []
  m_is_integer : mg "is_integer" = some (.ref c.f_is_integer)
  F_is_within : Fun K "is_within" "is_within" s_is_within c.f_is_within c.fd_is_within
  b_is_within : Binds K c.fd_is_within ["thing", "least", "most"] []
  m_is_within : mg "is_within" = some (.ref c.f_is_within)
  F_is_pair : Fun K "is_pair" "is_pair" s_is_pair c.f_is_pair c.fd_is_pair
  b_is_pair : Binds K c.fd_is_pair ["thing"] []
  m_is_pair : mg "is_pair" = some (.ref c.f_is_pair)
  F_are_ascending : Fun K "are_ascending" "are_ascending" s_are_ascending c.f_are_ascending c.fd_are_ascending
  b_are_ascending : Binds K c.fd_are_ascending ["numbers"] []
  m_are_ascending : mg "are_ascending" = some (.ref c.f_are_ascending)
  F_is_window : Fun K "is_window" "is_window" s_is_window c.f_is_window c.fd_is_window
  b_is_window : Binds K c.fd_is_window ["thing"] []
  m_is_window : mg "is_window" = some (.ref c.f_is_window)
  F_Book_init : Fun K "__init__" "Book.__init__" s_Book_init c.f_Book_init c.fd_Book_init
  b_Book_init : Binds K c.fd_Book_init ["self", "windows"] []
  F_RawBook_init : Fun K "__init__" "RawBook.__init__" s_RawBook_init c.f_RawBook_init c.fd_RawBook_init
  b_RawBook_init : Binds K c.fd_RawBook_init ["self", "windows"] []
  F_raw_book : Fun K "raw_book" "raw_book" s_raw_book c.f_raw_book c.fd_raw_book
  b_raw_book : Binds K c.fd_raw_book ["windows"] []
  m_raw_book : mg "raw_book" = some (.ref c.f_raw_book)
  F_many_of : Fun K "many_of" "many_of" s_many_of c.f_many_of c.fd_many_of
  b_many_of : Binds K c.fd_many_of ["book"] []
  m_many_of : mg "many_of" = some (.ref c.f_many_of)
  F_first_of : Fun K "first_of" "first_of" s_first_of c.f_first_of c.fd_first_of
  b_first_of : Binds K c.fd_first_of ["book", "work"] []
  m_first_of : mg "first_of" = some (.ref c.f_first_of)
  F_last_of : Fun K "last_of" "last_of" s_last_of c.f_last_of c.fd_last_of
  b_last_of : Binds K c.fd_last_of ["book", "work"] []
  m_last_of : mg "last_of" = some (.ref c.f_last_of)
  F_is_work : Fun K "is_work" "is_work" s_is_work c.f_is_work c.fd_is_work
  b_is_work : Binds K c.fd_is_work ["book", "thing"] []
  m_is_work : mg "is_work" = some (.ref c.f_is_work)
  F_is_row : Fun K "is_row" "is_row" s_is_row c.f_is_row c.fd_is_row
  b_is_row : Binds K c.fd_is_row ["book", "thing"] []
  m_is_row : mg "is_row" = some (.ref c.f_is_row)
  F_is_order : Fun K "is_order" "is_order" s_is_order c.f_is_order c.fd_is_order
  b_is_order : Binds K c.fd_is_order ["book", "thing"] []
  m_is_order : mg "is_order" = some (.ref c.f_is_order)
  F_is_group : Fun K "is_group" "is_group" s_is_group c.f_is_group c.fd_is_group
  b_is_group : Binds K c.fd_is_group ["book", "thing"] []
  m_is_group : mg "is_group" = some (.ref c.f_is_group)
  F_check_order : Fun K "check_order" "check_order" s_check_order c.f_check_order c.fd_check_order
  b_check_order : Binds K c.fd_check_order ["book", "thing"] []
  m_check_order : mg "check_order" = some (.ref c.f_check_order)
  F_check_group : Fun K "check_group" "check_group" s_check_group c.f_check_group c.fd_check_group
  b_check_group : Binds K c.fd_check_group ["book", "thing"] []
  m_check_group : mg "check_group" = some (.ref c.f_check_group)
  F_part : Fun K "part" "part" s_part c.f_part c.fd_part
  b_part : Binds K c.fd_part ["book", "group"] []
  m_part : mg "part" = some (.ref c.f_part)
  F_shifted : Fun K "shifted" "shifted" s_shifted c.f_shifted c.fd_shifted
  b_shifted : Binds K c.fd_shifted ["book", "by"] []
  m_shifted : mg "shifted" = some (.ref c.f_shifted)
  F_mirrored : Fun K "mirrored" "mirrored" s_mirrored c.f_mirrored c.fd_mirrored
  b_mirrored : Binds K c.fd_mirrored ["book"] []
  m_mirrored : mg "mirrored" = some (.ref c.f_mirrored)
  FC_widest_of : FunC K "widest_of" "widest_of" s_widest_of c.f_widest_of c.fd_widest_of c.cc_widest_of
  B_widest_of : LamX.TabB base mg c.cc_widest_of c.cp_widest_of
  tu_widest_of : ∀ p ∈ TT c, p.1 = c.cp_widest_of → p.2 = q_widest_of
  F_widest_of : Fun K "widest_of" "widest_of" s_widest_of c.f_widest_of c.fd_widest_of
  b_widest_of : Binds K c.fd_widest_of ["book", "works"] []
  m_widest_of : mg "widest_of" = some (.ref c.f_widest_of)
  F_worst_behind : Fun K "worst_behind" "worst_behind" s_worst_behind c.f_worst_behind c.fd_worst_behind
  b_worst_behind : Binds K c.fd_worst_behind ["book", "row"] []
  m_worst_behind : mg "worst_behind" = some (.ref c.f_worst_behind)
  F_regret_in : Fun K "regret_in" "regret_in" s_regret_in c.f_regret_in c.fd_regret_in
  b_regret_in : Binds K c.fd_regret_in ["book", "order"] []
  m_regret_in : mg "regret_in" = some (.ref c.f_regret_in)
  F_regret : Fun K "regret" "regret" s_regret c.f_regret c.fd_regret
  b_regret : Binds K c.fd_regret ["book", "order"] []
  m_regret : mg "regret" = some (.ref c.f_regret)
  F_L_law_pool : Fun K "_law_pool" "_law_pool" s_L_law_pool c.f_L_law_pool c.fd_L_law_pool
  b_L_law_pool : Binds K c.fd_L_law_pool ["_law_script"] []
  m_L_law_pool : mg "_law_pool" = some (.ref c.f_L_law_pool)
  F_L_law_draw : Fun K "_law_draw" "_law_draw" s_L_law_draw c.f_L_law_draw c.fd_L_law_draw
  b_L_law_draw : Binds K c.fd_L_law_draw ["_law_pool_here", "_law_many"] []
  m_L_law_draw : mg "_law_draw" = some (.ref c.f_L_law_draw)
  F_L_law_windows : Fun K "_law_windows" "_law_windows" s_L_law_windows c.f_L_law_windows c.fd_L_law_windows
  b_L_law_windows : Binds K c.fd_L_law_windows ["_law_pool_here", "_law_many", "_law_top"] []
  m_L_law_windows : mg "_law_windows" = some (.ref c.f_L_law_windows)
  F_L_law_row : Fun K "_law_row" "_law_row" s_L_law_row c.f_L_law_row c.fd_L_law_row
  b_L_law_row : Binds K c.fd_L_law_row ["_law_pool_here", "_law_works"] []
  m_L_law_row : mg "_law_row" = some (.ref c.f_L_law_row)
  F_L_law_some : Fun K "_law_some" "_law_some" s_L_law_some c.f_L_law_some c.fd_L_law_some
  b_L_law_some : Binds K c.fd_L_law_some ["_law_pool_here", "_law_many"] []
  m_L_law_some : mg "_law_some" = some (.ref c.f_L_law_some)
  F_L_law_is_int : Fun K "_law_is_int" "_law_is_int" s_L_law_is_int c.f_L_law_is_int c.fd_L_law_is_int
  b_L_law_is_int : Binds K c.fd_L_law_is_int ["_law_thing"] []
  m_L_law_is_int : mg "_law_is_int" = some (.ref c.f_L_law_is_int)
  F_L_law_regret : Fun K "_law_regret" "_law_regret" s_L_law_regret c.f_L_law_regret c.fd_L_law_regret
  b_L_law_regret : Binds K c.fd_L_law_regret ["_law_windows_here", "_law_order_here"] []
  m_L_law_regret : mg "_law_regret" = some (.ref c.f_L_law_regret)
  F_L_law_right : Fun K "_law_right" "_law_right" s_L_law_right c.f_L_law_right c.fd_L_law_right
  b_L_law_right : Binds K c.fd_L_law_right ["_law_book", "_law_order_here", "_law_due"] []
  m_L_law_right : mg "_law_right" = some (.ref c.f_L_law_right)
  FC_L_law_order : FunC K "_law_order" "_law_order" s_L_law_order c.f_L_law_order c.fd_L_law_order c.cc_L_law_order
  B_L_law_order : LamX.TabB base mg c.cc_L_law_order c.cp_L_law_order
  tu_L_law_order : ∀ p ∈ TT c, p.1 = c.cp_L_law_order → p.2 = q_L_law_order
  F_L_law_order : Fun K "_law_order" "_law_order" s_L_law_order c.f_L_law_order c.fd_L_law_order
  b_L_law_order : Binds K c.fd_L_law_order ["_law_pool_here", "_law_windows_here"] []
  m_L_law_order : mg "_law_order" = some (.ref c.f_L_law_order)
  F_law : Fun K "law" "law" s_law c.f_law c.fd_law
  b_law : Binds K c.fd_law ["_law_script"] []
  m_law : mg "law" = some (.ref c.f_law)
  k_Book : Cls K c.Book
  k_RawBook : Cls K c.RawBook
  m_MiddleError : mg "MiddleError" = some (.ref c.MiddleError)
  m_BadBook : mg "BadBook" = some (.ref c.BadBook)
  m_NoGroup : mg "NoGroup" = some (.ref c.NoGroup)
  m_NoNumber : mg "NoNumber" = some (.ref c.NoNumber)
  m_NoOrder : mg "NoOrder" = some (.ref c.NoOrder)
  m_Book : mg "Book" = some (.ref c.Book)
  m_RawBook : mg "RawBook" = some (.ref c.RawBook)
  n_Book_kept_windows : NoAttr K c.Book "kept_windows"
  n_Book_windows : NoAttr K c.Book "windows"
  n_RawBook_kept_windows : NoAttr K c.RawBook "kept_windows"
  n_RawBook_windows : NoAttr K c.RawBook "windows"
  mk_Book : Mk K c.Book c.f_Book_init
  mk_RawBook : Mk K c.RawBook c.f_RawBook_init
  z_abs : mg "abs" = none
  z_all : mg "all" = none
  z_any : mg "any" = none
  z_bool : mg "bool" = none
  z_int : mg "int" = none
  z_isinstance : mg "isinstance" = none
  z_len : mg "len" = none
  z_list : mg "list" = none
  z_max : mg "max" = none
  z_min : mg "min" = none
  z_range : mg "range" = none
  z_set : mg "set" = none
  z_sorted : mg "sorted" = none
  z_sum : mg "sum" = none
  z_tuple : mg "tuple" = none
  z_zip : mg "zip" = none
  g_MOST_HOUR : ∃ t, mg "MOST_HOUR" = some (.int 1000000 t)
  g_MOST_WORKS : ∃ t, mg "MOST_WORKS" = some (.int 40 t)
  x_BadBook : PySem.W.excIn K c.BadBook [.type "ValueError", .type "Exception", .type "BaseException", .type "object"] "ValueError.__new__" = true
  q_BadBook : PySem.W.keepIn K (.ref c.BadBook) = true
  s_BadBook : PySem.W.subIn K (.ref c.BadBook) (.type "BaseException") = some true
  y_BadBook : PySem.W.typeIn K (.ref c.BadBook) = some (.type "type")
  x_NoGroup : PySem.W.excIn K c.NoGroup [.type "ValueError", .type "Exception", .type "BaseException", .type "object"] "ValueError.__new__" = true
  q_NoGroup : PySem.W.keepIn K (.ref c.NoGroup) = true
  s_NoGroup : PySem.W.subIn K (.ref c.NoGroup) (.type "BaseException") = some true
  y_NoGroup : PySem.W.typeIn K (.ref c.NoGroup) = some (.type "type")
  x_NoNumber : PySem.W.excIn K c.NoNumber [.type "ValueError", .type "Exception", .type "BaseException", .type "object"] "ValueError.__new__" = true
  q_NoNumber : PySem.W.keepIn K (.ref c.NoNumber) = true
  s_NoNumber : PySem.W.subIn K (.ref c.NoNumber) (.type "BaseException") = some true
  y_NoNumber : PySem.W.typeIn K (.ref c.NoNumber) = some (.type "type")
  x_NoOrder : PySem.W.excIn K c.NoOrder [.type "ValueError", .type "Exception", .type "BaseException", .type "object"] "ValueError.__new__" = true
  q_NoOrder : PySem.W.keepIn K (.ref c.NoOrder) = true
  s_NoOrder : PySem.W.subIn K (.ref c.NoOrder) (.type "BaseException") = some true
  y_NoOrder : PySem.W.typeIn K (.ref c.NoOrder) = some (.type "type")
/-! ### data -/
abbrev Win := Int × Int
def eNat (w : Nat) : D := .int (w : Nat)
def eRow (r : List Nat) : D := .tup (r.map eNat)
/-- a row as a tuple, of either kind -/
def eT : Bool → List Nat → D
  | true, r => .tpx (r.map eNat)
  | false, r => eRow r
def eWs (ws : List Win) : D := .tup (ws.map pD)
structure WinOk (w : Win) : Prop where
  h0 : 0 ≤ w.1
  h1 : w.1 ≤ w.2
  h2 : w.2 ≤ 1000000
structure BookOk (ws : List Win) : Prop where
  h0 : 1 ≤ ws.length
  h1 : ws.length ≤ 40
  all : ∀ w, w ∈ ws → WinOk w
structure IsRow (n : Nat) (r : List Nat) : Prop where
  nd : r.Nodup
  lt : ∀ w, w ∈ r → w < n
structure IsGrp (n : Nat) (g : List Nat) : Prop where
  asc : g.Pairwise (· < ·)
  lt : ∀ w, w ∈ g → w < n
structure IsOrd (n : Nat) (r : List Nat) : Prop where
  row : IsRow n r
  len : r.length = n
def bkC (c : CA) : Bool → Addr
  | true => c.Book
  | false => c.RawBook
def eBk (c : CA) (b : Bool) (ws : List Win) : D := .ins (bkC c b) [("windows", eWs ws), ("kept_windows", eWs ws)]
def bgn (ws : List Win) (w : Nat) : Int := (ws.getD w (0, 0)).1
def fin (ws : List Win) (w : Nat) : Int := (ws.getD w (0, 0)).2
/-- a ahead of b -/
def Bef (r : List Nat) (a b : Nat) : Prop := [a, b].Sublist r
def BefE (r : List Nat) (a b : Nat) : Prop := (a = b ∧ a ∈ r) ∨ Bef r a b
structure Quad (r : List Nat) (i j f l : Nat) : Prop where
  ij : Bef r i j
  ne : f ≠ l
  f1 : BefE r i f
  f2 : BefE r f j
  l1 : BefE r i l
  l2 : BefE r l j
def qv (ws : List Win) (i j f l : Nat) : Int := bgn ws i - bgn ws f + fin ws l - fin ws j
structure IsReg (ws : List Win) (r : List Nat) (h : Int) : Prop where
  h0 : 0 ≤ h
  all : ∀ i j f l, Quad r i j f l → qv ws i j f l ≤ h
  ex : h = 0 ∨ ∃ i j f l, Quad r i j f l ∧ qv ws i j f l = h
/-- the regret of the stretches of P, shown by works -/
structure Shows (ws : List Win) (P : Nat → Nat → Nat → Nat → Prop) (h : Int) (works : List Nat) : Prop where
  h0 : 0 ≤ h
  all : ∀ i j f l, P i j f l → qv ws i j f l ≤ h
  ex : (h = 0 ∧ works = []) ∨ (0 < h ∧ ∃ i j f l, works = [i, j, f, l] ∧ P i j f l ∧ qv ws i j f l = h)
def LastQ (r : List Nat) (i j f l : Nat) : Prop := Quad r i j f l ∧ r.getLast? = some j
/-! ### what the defs promise -/
def isInt : D → Bool
  | .int _ => true
  | _ => false
def within (a b : Int) : D → Bool
  | .int i => decide (a ≤ i) && decide (i ≤ b)
  | _ => false
def flat : D → Prop
  | .non => True
  | .bl _ => True
  | .int _ => True
  | .str _ => True
  | .tup _ => True
  | .lst _ => True
  | _ => False
def f_is_integer (c : CA) : FP := fun ds Q _ => ∃ d, ds = [d] ∧ flat d ∧ Q (.bl (isInt d))
def f_is_within (c : CA) : FP := fun ds Q _ => ∃ d a b, ds = [d, .int a, .int b] ∧ flat d ∧ Q (.bl (within a b d))
def f_is_pair (c : CA) : FP := fun ds Q _ => ∃ p, ds = [pD p] ∧ Q (.bl true)
def f_is_window (c : CA) : FP := fun ds Q _ => ∃ p, ds = [pD p] ∧ WinOk p ∧ Q (.bl true)
def p_Book_init (c : CA) : PD := fun ds M F => ∃ ws, BookOk ws ∧ ds = [.loc 0, eWs ws] ∧ M = [.ins c.Book []] ∧ F.rt .non [eBk c true ws]
def p_RawBook_init (c : CA) : PD := fun ds M F => ∃ ws, ds = [.loc 0, eWs ws] ∧ M = [.ins c.RawBook []] ∧ F.rt .non [eBk c false ws]
def f_raw_book (c : CA) : FP := fun ds Q _ => ∃ ws : List Win, ds = [.lst (ws.map pD)] ∧ Q (eBk c false ws)
def f_many_of (c : CA) : FP := fun ds Q _ => ∃ b ws, ds = [eBk c b ws] ∧ Q (eNat ws.length)
def f_first_of (c : CA) : FP := fun ds Q _ => ∃ b ws w, ds = [eBk c b ws, eNat w] ∧ w < ws.length ∧ Q (.int (bgn ws w))
def f_last_of (c : CA) : FP := fun ds Q _ => ∃ b ws w, ds = [eBk c b ws, eNat w] ∧ w < ws.length ∧ Q (.int (fin ws w))
def f_is_work (c : CA) : FP := fun ds Q _ => ∃ b ws w, ds = [eBk c b ws, eNat w] ∧ w < ws.length ∧ Q (.bl true)
def f_is_row (c : CA) : FP := fun ds Q _ => ∃ b ws t r, ds = [eBk c b ws, eT t r] ∧ IsRow ws.length r ∧ r.length ≤ 4000 ∧ Q (.bl true)
def f_is_order (c : CA) : FP := fun ds Q _ => ∃ b ws r, ds = [eBk c b ws, eRow r] ∧ IsOrd ws.length r ∧ r.length ≤ 4000 ∧ Q (.bl true)
def f_check_order (c : CA) : FP := fun ds Q _ => ∃ b ws r, ds = [eBk c b ws, eRow r] ∧ IsOrd ws.length r ∧ r.length ≤ 4000 ∧ Q .non
def f_are_ascending (c : CA) : FP := fun ds Q _ => ∃ t g, ds = [eT t g] ∧ g.Pairwise (· < ·) ∧ g.length ≤ 4000 ∧ Q (.bl true)
def f_is_group (c : CA) : FP := fun ds Q _ => ∃ b ws t g, ds = [eBk c b ws, eT t g] ∧ IsGrp ws.length g ∧ g.length ≤ 4000 ∧ Q (.bl true)
def f_check_group (c : CA) : FP := fun ds Q _ => ∃ b ws t g, ds = [eBk c b ws, eT t g] ∧ IsGrp ws.length g ∧ g ≠ [] ∧ g.length ≤ 4000 ∧ Q .non
def sub (ws : List Win) (g : List Nat) : List Win := g.map fun w => ws.getD w (0, 0)
def f_part (c : CA) : FP := fun ds Q _ => ∃ b ws t g, ds = [eBk c b ws, eT t g] ∧ IsGrp ws.length g ∧ g ≠ [] ∧ g.length ≤ 4000 ∧ Q (eBk c false (sub ws g))
def shf (by_ : Int) (ws : List Win) : List Win := ws.map fun w => (w.1 + by_, w.2 + by_)
def f_shifted (c : CA) : FP := fun ds Q _ => ∃ b ws i, ds = [eBk c b ws, .int i] ∧ BookOk ws ∧ 0 ≤ i ∧ Q (eBk c false (shf i ws))
def mir (top : Int) (ws : List Win) : List Win := ws.map fun w => (top - w.2, top - w.1)
def f_mirrored (c : CA) : FP := fun ds Q _ => ∃ b ws, ds = [eBk c b ws] ∧ ws ≠ [] ∧ ws.length ≤ 4000 ∧ ∀ top, Q (eBk c false (mir top ws))
def f_widest_of (c : CA) : FP := fun ds Q _ => ∃ b ws r, ds = [eBk c b ws, eRow r] ∧ IsRow ws.length r ∧ 2 ≤ r.length ∧ r.length ≤ 4000 ∧
  ∀ o t, o ∈ r → t ∈ r → o ≠ t → (∀ o' t', o' ∈ r → t' ∈ r → o' ≠ t' → fin ws t' - bgn ws o' ≤ fin ws t - bgn ws o) → Q (.tup [.int (fin ws t - bgn ws o), eNat o, eNat t])
def f_worst_behind (c : CA) : FP := fun ds Q _ => ∃ b ws r, ds = [eBk c b ws, eRow r] ∧ IsRow ws.length r ∧ 1 ≤ r.length ∧ r.length ≤ 4000 ∧ ∀ h works, Shows ws (LastQ r) h works → Q (.tup [.int h, eRow works])
def f_regret_in (c : CA) : FP := fun ds Q _ => ∃ b ws r, ds = [eBk c b ws, eRow r] ∧ IsRow ws.length r ∧ r.length ≤ 4000 ∧ ∀ h works, Shows ws (Quad r) h works → Q (.tup [.int h, eRow works])
def f_regret (c : CA) : FP := fun ds Q _ => ∃ b ws r, ds = [eBk c b ws, eRow r] ∧ IsOrd ws.length r ∧ r.length ≤ 4000 ∧ ∀ h, IsReg ws r h → Q (.int h)
/-! the law's own -/
def eCells (ns : List Int) : D := .lst (ns.map D.int)
def ePool (a b : Int) : D := .lst [.int a, .int b, .loc 0]
def IsPl (c p : D) : Prop := (∃ ns, c = eCells ns) ∧ ∃ a b, p = ePool a b
def p_L_law_pool (c : CA) : PD := fun ds M F => ∃ ns : List Int, ds = [.lst (ns.map D.int)] ∧ ns.length ≤ 63 ∧ M = [] ∧ ∀ u v, IsPl u v → F.rt (.loc 1) [u, v]
/-- what draws: the pool goes on -/
def draws (n : Nat) (P : List D → (D → Prop) → Prop) : PD := fun ds M F => ∃ u v xs, ds = .loc 1 :: xs ∧ IsPl u v ∧ M = [u, v] ∧ xs.length = n ∧ ltL 0 xs = true ∧ P xs fun d => d.lt 0 = true → ∀ u' v', IsPl u' v' → F.rt d [u', v']
def p_L_law_draw (c : CA) : PD := draws 1 fun xs Q => ∃ n : Int, xs = [.int n] ∧ 0 < n ∧ n < 1073741824 ∧ ∀ r : Int, 0 ≤ r → r < n → Q (.int r)
def p_L_law_windows (c : CA) : PD := draws 2 fun xs Q => ∃ (n : Nat) (top : Int), xs = [eNat n, .int top] ∧ 0 < n ∧ n ≤ 40 ∧ 1 ≤ top ∧ top ≤ 100000 ∧ ∀ ws, BookOk ws → ws.length = n → Q (eWs ws)
def p_L_law_row (c : CA) : PD := draws 1 fun xs Q => ∃ works : List Nat, xs = [eRow works] ∧ works.length ≤ 40 ∧ ∀ r, r.Perm works → Q (eRow r)
def f_L_law_is_int (c : CA) : FP := fun ds Q _ => ∃ d, ds = [d] ∧ flat d ∧ Q (.bl (isInt d))
def f_L_law_regret (c : CA) : FP := fun ds Q _ => ∃ d ws r, ds = [d, eRow r] ∧ (d = eWs ws ∨ d = .lst (ws.map pD)) ∧ IsRow ws.length r ∧ r.length ≤ 4000 ∧ ∀ h, IsReg ws r h → Q (.int h)
def p_L_law_some (c : CA) : PD := draws 1 fun xs Q => ∃ n : Nat, xs = [eNat n] ∧ n ≤ 40 ∧ ∀ g, IsGrp n g → Q (eT true g)
def f_L_law_right (c : CA) : FP := fun ds Q _ => ∃ b ws r h, ds = [eBk c b ws, eRow r, .int h] ∧ IsOrd ws.length r ∧ r.length ≤ 4000 ∧ IsReg ws r h ∧ Q (.bl true)
def p_L_law_order (c : CA) : PD := draws 1 fun xs Q => ∃ ws, xs = [eWs ws] ∧ BookOk ws ∧ ∀ r, IsOrd ws.length r → Q (eRow r)
def f_law (c : CA) : FP := fun ds Q _ => ∃ ns : List Int, ds = [.lst (ns.map D.int)] ∧ ns.length ≤ 63 ∧ Q (.bl true)

abbrev sp_is_integer (K : PySem.W.Frag) (c : CA) : Sp := spP K (TT c) (f_is_integer c)
abbrev c_is_integer (c : CA) : TDc := callP (f_is_integer c)
theorem cc_is_integer {K : PySem.W.Frag} {c : CA} : Callee K (TT c) (sp_is_integer K c) (c_is_integer c) := calleeP
def w_is_integer (c : CA) : TDs :=
    (wRet (wAndV (wCB oIsi (wCons (wVar 0) (wCons (wC (.ty "int")) wNil))) (wNotV (wCB oIsi (wCons (wVar 0) (wCons (wC (.ty "bool")) wNil))))))
abbrev sp_is_within (K : PySem.W.Frag) (c : CA) : Sp := spP K (TT c) (f_is_within c)
abbrev c_is_within (c : CA) : TDc := callP (f_is_within c)
theorem cc_is_within {K : PySem.W.Frag} {c : CA} : Callee K (TT c) (sp_is_within K c) (c_is_within c) := calleeP
def w_is_within (c : CA) : TDs :=
    (wRet (wAndV (wCal (c_is_integer c) (wCons (wVar 0) wNil)) (wChain oLe oLe (wVar 1) (wVar 0) (wVar 2))))
abbrev sp_is_pair (K : PySem.W.Frag) (c : CA) : Sp := spP K (TT c) (f_is_pair c)
abbrev c_is_pair (c : CA) : TDc := callP (f_is_pair c)
theorem cc_is_pair {K : PySem.W.Frag} {c : CA} : Callee K (TT c) (sp_is_pair K c) (c_is_pair c) := calleeP
def w_is_pair (c : CA) : TDs :=
    (wRet (wAndV (wCB oIsi (wCons (wVar 0) (wCons (wC (.ty "tuple")) wNil))) (wBin oEq (wCB oLen (wCons (wVar 0) wNil)) (wC (.int 2)))))
abbrev sp_are_ascending (K : PySem.W.Frag) (c : CA) : Sp := spP K (TT c) (f_are_ascending c)
abbrev c_are_ascending (c : CA) : TDc := callP (f_are_ascending c)
theorem cc_are_ascending {K : PySem.W.Frag} {c : CA} : Callee K (TT c) (sp_are_ascending K c) (c_are_ascending c) := calleeP
def w_are_ascending (c : CA) : TDs :=
    (wRet (wCB oAll (wCons (wLc (wZip (wVar 0) (wSl oSlX (wVar 0) (wOSome (wC (.int 1))) wONone)) (gT 2 (gsC (gN 1) (gsC (gN 2) gsN))) wYes (wBin oLt (wVar 1) (wVar 2)) [1, 2]) wNil)))
abbrev sp_is_window (K : PySem.W.Frag) (c : CA) : Sp := spP K (TT c) (f_is_window c)
abbrev c_is_window (c : CA) : TDc := callP (f_is_window c)
theorem cc_is_window {K : PySem.W.Frag} {c : CA} : Callee K (TT c) (sp_is_window K c) (c_is_window c) := calleeP
def w_is_window (c : CA) : TDs :=
    (wRet (wAndV (wCal (c_is_pair c) (wCons (wVar 0) wNil)) (wAndV (wCal (c_is_within c) (wCons (wBin oIx (wVar 0) (wC (.int 0))) (wCons (wC (.int 0)) (wCons (wC (.int 1000000)) wNil)))) (wCal (c_is_within c) (wCons (wBin oIx (wVar 0) (wC (.int 1))) (wCons (wBin oIx (wVar 0) (wC (.int 0))) (wCons (wC (.int 1000000)) wNil)))))))
abbrev sp_Book_init (K : PySem.W.Frag) (c : CA) : Sp := spD K (TT c) (p_Book_init c)
abbrev c_Book_init (c : CA) : TDc := callM (p_Book_init c)
theorem cc_Book_init {K : PySem.W.Frag} {c : CA} : Callee K (TT c) (sp_Book_init K c) (c_Book_init c) := calleeM
def w_Book_init (c : CA) : TDs :=
    (wSeq (wIte (wOr (wNot (wTst (wCB oIsi (wCons (wVar 1) (wCons (wC (.ty "tuple")) wNil))))) (wNot (wTst (wChain oLe oLe (wC (.int 1)) (wCB oLen (wCons (wVar 1) wNil)) (wC (.int 40)))))) (wRaise c.BadBook) wSkip)
    (wSeq (wIte (wNot (wTst (wCB oAll (wCons (wLc (wSeqI (wVar 1)) (gN 2) wYes (wCal (c_is_window c) (wCons (wVar 2) wNil)) [2]) wNil)))) (wRaise c.BadBook) wSkip)
    (wSeq (wFldSet [c.Book, c.RawBook] "windows" (wVar 0) (wVar 1))
    (wFldSet [c.Book, c.RawBook] "kept_windows" (wVar 0) (wVar 1)))))
abbrev sp_RawBook_init (K : PySem.W.Frag) (c : CA) : Sp := spD K (TT c) (p_RawBook_init c)
abbrev c_RawBook_init (c : CA) : TDc := callM (p_RawBook_init c)
theorem cc_RawBook_init {K : PySem.W.Frag} {c : CA} : Callee K (TT c) (sp_RawBook_init K c) (c_RawBook_init c) := calleeM
def w_RawBook_init (c : CA) : TDs :=
    (wSeq (wFldSet [c.Book, c.RawBook] "windows" (wVar 0) (wVar 1))
    (wFldSet [c.Book, c.RawBook] "kept_windows" (wVar 0) (wVar 1)))
abbrev sp_raw_book (K : PySem.W.Frag) (c : CA) : Sp := spP K (TT c) (f_raw_book c)
abbrev c_raw_book (c : CA) : TDc := callP (f_raw_book c)
theorem cc_raw_book {K : PySem.W.Frag} {c : CA} : Callee K (TT c) (sp_raw_book K c) (c_raw_book c) := calleeP
def w_raw_book (c : CA) : TDs :=
    (wRet (wMakeI c.RawBook (c_RawBook_init c) (wCons (wCB oTuple (wCons (wVar 0) wNil)) wNil)))
abbrev sp_many_of (K : PySem.W.Frag) (c : CA) : Sp := spP K (TT c) (f_many_of c)
abbrev c_many_of (c : CA) : TDc := callP (f_many_of c)
theorem cc_many_of {K : PySem.W.Frag} {c : CA} : Callee K (TT c) (sp_many_of K c) (c_many_of c) := calleeP
def w_many_of (c : CA) : TDs :=
    (wRet (wCB oLen (wCons (wFld [c.Book, c.RawBook] "kept_windows" (wVar 0)) wNil)))
abbrev sp_first_of (K : PySem.W.Frag) (c : CA) : Sp := spP K (TT c) (f_first_of c)
abbrev c_first_of (c : CA) : TDc := callP (f_first_of c)
theorem cc_first_of {K : PySem.W.Frag} {c : CA} : Callee K (TT c) (sp_first_of K c) (c_first_of c) := calleeP
def w_first_of (c : CA) : TDs :=
    (wRet (wBin oIx (wBin oIx (wFld [c.Book, c.RawBook] "kept_windows" (wVar 0)) (wVar 1)) (wC (.int 0))))
abbrev sp_last_of (K : PySem.W.Frag) (c : CA) : Sp := spP K (TT c) (f_last_of c)
abbrev c_last_of (c : CA) : TDc := callP (f_last_of c)
theorem cc_last_of {K : PySem.W.Frag} {c : CA} : Callee K (TT c) (sp_last_of K c) (c_last_of c) := calleeP
def w_last_of (c : CA) : TDs :=
    (wRet (wBin oIx (wBin oIx (wFld [c.Book, c.RawBook] "kept_windows" (wVar 0)) (wVar 1)) (wC (.int 1))))
abbrev sp_is_work (K : PySem.W.Frag) (c : CA) : Sp := spP K (TT c) (f_is_work c)
abbrev c_is_work (c : CA) : TDc := callP (f_is_work c)
theorem cc_is_work {K : PySem.W.Frag} {c : CA} : Callee K (TT c) (sp_is_work K c) (c_is_work c) := calleeP
def w_is_work (c : CA) : TDs :=
    (wRet (wCal (c_is_within c) (wCons (wVar 1) (wCons (wC (.int 0)) (wCons (wBin oSub (wCal (c_many_of c) (wCons (wVar 0) wNil)) (wC (.int 1))) wNil)))))
abbrev sp_is_row (K : PySem.W.Frag) (c : CA) : Sp := spP K (TT c) (f_is_row c)
abbrev c_is_row (c : CA) : TDc := callP (f_is_row c)
theorem cc_is_row {K : PySem.W.Frag} {c : CA} : Callee K (TT c) (sp_is_row K c) (c_is_row c) := calleeP
def w_is_row (c : CA) : TDs :=
    (wSeq (wIte (wOr (wNot (wTst (wCB oIsi (wCons (wVar 1) (wCons (wC (.ty "tuple")) wNil))))) (wNot (wTst (wCB oAll (wCons (wLc (wSeqI (wVar 1)) (gN 2) wYes (wCal (c_is_work c) (wCons (wVar 0) (wCons (wVar 2) wNil))) [2]) wNil))))) (wRet (wC (.bl false))) wSkip)
    (wRet (wBin oEq (wLenSet (wCB oList (wCons (wVar 1) wNil))) (wCB oLen (wCons (wVar 1) wNil)))))
abbrev sp_is_order (K : PySem.W.Frag) (c : CA) : Sp := spP K (TT c) (f_is_order c)
abbrev c_is_order (c : CA) : TDc := callP (f_is_order c)
theorem cc_is_order {K : PySem.W.Frag} {c : CA} : Callee K (TT c) (sp_is_order K c) (c_is_order c) := calleeP
def w_is_order (c : CA) : TDs :=
    (wRet (wAndV (wCal (c_is_row c) (wCons (wVar 0) (wCons (wVar 1) wNil))) (wBin oEq (wCB oLen (wCons (wVar 1) wNil)) (wCal (c_many_of c) (wCons (wVar 0) wNil)))))
abbrev sp_is_group (K : PySem.W.Frag) (c : CA) : Sp := spP K (TT c) (f_is_group c)
abbrev c_is_group (c : CA) : TDc := callP (f_is_group c)
theorem cc_is_group {K : PySem.W.Frag} {c : CA} : Callee K (TT c) (sp_is_group K c) (c_is_group c) := calleeP
def w_is_group (c : CA) : TDs :=
    (wRet (wAndV (wCal (c_is_row c) (wCons (wVar 0) (wCons (wVar 1) wNil))) (wCal (c_are_ascending c) (wCons (wVar 1) wNil))))
abbrev sp_check_order (K : PySem.W.Frag) (c : CA) : Sp := spP K (TT c) (f_check_order c)
abbrev c_check_order (c : CA) : TDc := callP (f_check_order c)
theorem cc_check_order {K : PySem.W.Frag} {c : CA} : Callee K (TT c) (sp_check_order K c) (c_check_order c) := calleeP
def w_check_order (c : CA) : TDs :=
    (wIte (wNot (wTst (wCal (c_is_order c) (wCons (wVar 0) (wCons (wVar 1) wNil))))) (wRaise c.NoOrder) wSkip)
abbrev sp_check_group (K : PySem.W.Frag) (c : CA) : Sp := spP K (TT c) (f_check_group c)
abbrev c_check_group (c : CA) : TDc := callP (f_check_group c)
theorem cc_check_group {K : PySem.W.Frag} {c : CA} : Callee K (TT c) (sp_check_group K c) (c_check_group c) := calleeP
def w_check_group (c : CA) : TDs :=
    (wIte (wOr (wNot (wTst (wCal (c_is_group c) (wCons (wVar 0) (wCons (wVar 1) wNil))))) (wTst (wBin oEq (wCB oLen (wCons (wVar 1) wNil)) (wC (.int 0))))) (wRaise c.NoGroup) wSkip)
abbrev sp_part (K : PySem.W.Frag) (c : CA) : Sp := spP K (TT c) (f_part c)
abbrev c_part (c : CA) : TDc := callP (f_part c)
theorem cc_part {K : PySem.W.Frag} {c : CA} : Callee K (TT c) (sp_part K c) (c_part c) := calleeP
def w_part (c : CA) : TDs :=
    (wSeq (wDrop (wCal (c_check_group c) (wCons (wVar 0) (wCons (wVar 1) wNil))))
    (wRet (wCal (c_raw_book c) (wCons (wLc (wSeqI (wVar 1)) (gN 2) wYes (wBin oIx (wFld [c.Book, c.RawBook] "kept_windows" (wVar 0)) (wVar 2)) [2]) wNil))))
abbrev sp_shifted (K : PySem.W.Frag) (c : CA) : Sp := spP K (TT c) (f_shifted c)
abbrev c_shifted (c : CA) : TDc := callP (f_shifted c)
theorem cc_shifted {K : PySem.W.Frag} {c : CA} : Callee K (TT c) (sp_shifted K c) (c_shifted c) := calleeP
def w_shifted (c : CA) : TDs :=
    (wSeq (wIte (wOr (wNot (wTst (wCal (c_is_integer c) (wCons (wVar 1) wNil)))) (wTst (wCB oAnyB (wCons (wLc (wSeqI (wFld [c.Book, c.RawBook] "kept_windows" (wVar 0))) (gT 2 (gsC (gN 2) (gsC (gN 3) gsN))) wYes (wBin oLt (wBin oAdd (wVar 2) (wVar 1)) (wC (.int 0))) [2, 3]) wNil)))) (wRaise c.NoNumber) wSkip)
    (wRet (wCal (c_raw_book c) (wCons (wLc (wSeqI (wFld [c.Book, c.RawBook] "kept_windows" (wVar 0))) (gT 2 (gsC (gN 2) (gsC (gN 3) gsN))) wYes (wTup (wCons (wBin oAdd (wVar 2) (wVar 1)) (wCons (wBin oAdd (wVar 3) (wVar 1)) wNil))) [2, 3]) wNil))))
abbrev sp_mirrored (K : PySem.W.Frag) (c : CA) : Sp := spP K (TT c) (f_mirrored c)
abbrev c_mirrored (c : CA) : TDc := callP (f_mirrored c)
theorem cc_mirrored {K : PySem.W.Frag} {c : CA} : Callee K (TT c) (sp_mirrored K c) (c_mirrored c) := calleeP
def w_mirrored (c : CA) : TDs :=
    (wSeq (wSet 1 (wCB oMax1 (wCons (wLc (wSeqI (wFld [c.Book, c.RawBook] "kept_windows" (wVar 0))) (gT 2 (gsC (gN 2) (gsC (gN 3) gsN))) wYes (wVar 3) [2, 3]) wNil)))
    (wRet (wCal (c_raw_book c) (wCons (wLc (wSeqI (wFld [c.Book, c.RawBook] "kept_windows" (wVar 0))) (gT 2 (gsC (gN 2) (gsC (gN 3) gsN))) wYes (wTup (wCons (wBin oSub (wVar 1) (wVar 3)) (wCons (wBin oSub (wVar 1) (wVar 2)) wNil))) [2, 3]) wNil))))
abbrev sp_widest_of (K : PySem.W.Frag) (c : CA) : Sp := spP K (TT c) (f_widest_of c)
abbrev c_widest_of (c : CA) : TDc := callP (f_widest_of c)
theorem cc_widest_of {K : PySem.W.Frag} {c : CA} : Callee K (TT c) (sp_widest_of K c) (c_widest_of c) := calleeP
def w_widest_of (c : CA) : TDs :=
    (wSeq (wSet 2 (wSl oSl (wSortL 8 (wVar 1) (wCal (c_first_of c) (wCons (wVar 0) (wCons (wVar 8) wNil)))) wONone (wOSome (wC (.int 2)))))
    (wSeq (wSet 3 (wSl oSl (wSortL 8 (wVar 1) (wUn oNeg (wCal (c_last_of c) (wCons (wVar 0) (wCons (wVar 8) wNil))))) wONone (wOSome (wC (.int 2)))))
    (wSeq (wSet 4 (wC .non))
    (wSeq (wFor (wSeqI (wVar 2)) (gN 5) (wFor (wSeqI (wVar 3)) (gN 6) (wSeq (wSet 7 (wBin oSub (wCal (c_last_of c) (wCons (wVar 0) (wCons (wVar 6) wNil))) (wCal (c_first_of c) (wCons (wVar 0) (wCons (wVar 5) wNil)))))
    (wIte (wAnd (wTst (wBin oNe (wVar 5) (wVar 6))) (wOr (wTst (wBin oIs (wVar 4) (wC .non))) (wTst (wBin oGt (wVar 7) (wBin oIx (wVar 4) (wC (.int 0))))))) (wSet 4 (wTup (wCons (wVar 7) (wCons (wVar 5) (wCons (wVar 6) wNil))))) wSkip))))
    (wRet (wVar 4))))))
abbrev sp_worst_behind (K : PySem.W.Frag) (c : CA) : Sp := spP K (TT c) (f_worst_behind c)
abbrev c_worst_behind (c : CA) : TDc := callP (f_worst_behind c)
theorem cc_worst_behind {K : PySem.W.Frag} {c : CA} : Callee K (TT c) (sp_worst_behind K c) (c_worst_behind c) := calleeP
def w_worst_behind (c : CA) : TDs :=
    (wSeq (wSet 2 (wTup (wCons (wC (.int 0)) (wCons (wTup wNil) wNil))))
    (wSeq (wSet 3 (wBin oIx (wVar 1) (wUn oNeg (wC (.int 1)))))
    (wSeq (wFor (wRng1 (wCons (wBin oSub (wCB oLen (wCons (wVar 1) wNil)) (wC (.int 1))) wNil)) (gN 4) (wSeq (wAsg (wCal (c_widest_of c) (wCons (wVar 0) (wCons (wSl oSl (wVar 1) (wOSome (wVar 4)) wONone) wNil))) (gT 3 (gsC (gN 5) (gsC (gN 6) (gsC (gN 7) gsN)))))
    (wSeq (wAug 5 oIAdd (wBin oSub (wCal (c_first_of c) (wCons (wVar 0) (wCons (wBin oIx (wVar 1) (wVar 4)) wNil))) (wCal (c_last_of c) (wCons (wVar 0) (wCons (wVar 3) wNil)))))
    (wIte (wTst (wBin oGt (wVar 5) (wBin oIx (wVar 2) (wC (.int 0))))) (wSet 2 (wTup (wCons (wVar 5) (wCons (wTup (wCons (wBin oIx (wVar 1) (wVar 4)) (wCons (wVar 3) (wCons (wVar 6) (wCons (wVar 7) wNil))))) wNil)))) wSkip))))
    (wRet (wVar 2)))))
abbrev sp_regret_in (K : PySem.W.Frag) (c : CA) : Sp := spP K (TT c) (f_regret_in c)
abbrev c_regret_in (c : CA) : TDc := callP (f_regret_in c)
theorem cc_regret_in {K : PySem.W.Frag} {c : CA} : Callee K (TT c) (sp_regret_in K c) (c_regret_in c) := calleeP
def w_regret_in (c : CA) : TDs :=
    (wSeq (wSet 2 (wTup (wCons (wC (.int 0)) (wCons (wTup wNil) wNil))))
    (wSeq (wFor (wRng2 (wCons (wC (.int 1)) (wCons (wCB oLen (wCons (wVar 1) wNil)) wNil))) (gN 3) (wSeq (wSet 4 (wCal (c_worst_behind c) (wCons (wVar 0) (wCons (wSl oSl (wVar 1) wONone (wOSome (wBin oAdd (wVar 3) (wC (.int 1))))) wNil))))
    (wIte (wTst (wBin oGt (wBin oIx (wVar 4) (wC (.int 0))) (wBin oIx (wVar 2) (wC (.int 0))))) (wSet 2 (wVar 4)) wSkip)))
    (wRet (wVar 2))))
abbrev sp_regret (K : PySem.W.Frag) (c : CA) : Sp := spP K (TT c) (f_regret c)
abbrev c_regret (c : CA) : TDc := callP (f_regret c)
theorem cc_regret {K : PySem.W.Frag} {c : CA} : Callee K (TT c) (sp_regret K c) (c_regret c) := calleeP
def w_regret (c : CA) : TDs :=
    (wSeq (wDrop (wCal (c_check_order c) (wCons (wVar 0) (wCons (wVar 1) wNil))))
    (wRet (wBin oIx (wCal (c_regret_in c) (wCons (wVar 0) (wCons (wVar 1) wNil))) (wC (.int 0)))))
abbrev sp_L_law_pool (K : PySem.W.Frag) (c : CA) : Sp := spD K (TT c) (p_L_law_pool c)
abbrev c_L_law_pool (c : CA) : TDc := callM (p_L_law_pool c)
theorem cc_L_law_pool {K : PySem.W.Frag} {c : CA} : Callee K (TT c) (sp_L_law_pool K c) (c_L_law_pool c) := calleeM
def w_L_law_pool (c : CA) : TDs :=
    (wSeq (wSet 1 (wBin oAdd (wBin oAdd (wBin oMod (wCB oInt (wCons (wCB oSum (wCons (wSl oSl (wVar 0) wONone (wOSome (wC (.int 1)))) wNil)) wNil)) (wC (.int 1000003))) (wCB oLen (wCons (wVar 0) wNil))) (wC (.int 1))))
    (wSeq (wFor (wSeqI (wSl oSl (wVar 0) wONone (wOSome (wC (.int 63))))) (gN 2) (wSet 1 (wBin oMod (wCB oInt (wCons (wBin oAdd (wBin oAdd (wBin oMul (wVar 1) (wC (.int 48271))) (wBin oMod (wCB oInt (wCons (wVar 2) wNil)) (wC (.int 2147483629)))) (wC (.int 11))) wNil)) (wC (.int 2147483647)))))
    (wRetW (wLst (wCons (wVar 1) (wCons (wC (.int 0)) (wConsN (wLc (wSeqI (wSl oSl (wVar 0) wONone (wOSome (wC (.int 63))))) (gN 2) (wTst (wBin oGe (wCB oAbs (wCons (wVar 2) wNil)) (wBin oPow (wC (.int 10)) (wC (.int 18))))) (wCB oAbs (wCons (wVar 2) wNil)) [2]) wNil)))))))
abbrev sp_L_law_draw (K : PySem.W.Frag) (c : CA) : Sp := spD K (TT c) (p_L_law_draw c)
abbrev c_L_law_draw (c : CA) : TDc := callM (p_L_law_draw c)
theorem cc_L_law_draw {K : PySem.W.Frag} {c : CA} : Callee K (TT c) (sp_L_law_draw K c) (c_L_law_draw c) := calleeM
def w_L_law_draw (c : CA) : TDs :=
    (wSeq (wSetIx (wVar 0) (wC (.int 1)) (wBin oAdd (wBin oIx (wVar 0) (wC (.int 1))) (wC (.int 1))))
    (wSeq (wSet 2 (wBin oIx (wVar 0) (wC (.int 2))))
    (wSeq (wIte (wTst (wBin oGt (wCB oLen (wCons (wVar 2) wNil)) (wC (.int 0)))) (wSeq (wSet 4 (wBin oMod (wCB oInt (wCons (wBin oIx (wVar 2) (wC (.int 0))) wNil)) (wVar 1)))
    (wSeq (wSetIx (wVar 2) (wC (.int 0)) (wBin oDiv (wCB oInt (wCons (wBin oIx (wVar 2) (wC (.int 0))) wNil)) (wVar 1)))
    (wSeq (wIte (wTst (wBin oEq (wBin oIx (wVar 2) (wC (.int 0))) (wC (.int 0)))) (wDrop (wPop (wVar 2) (wC (.int 0)))) wSkip)
    (wRet (wVar 4))))) wSkip)
    (wSeq (wSet 3 (wBin oMod (wCB oInt (wCons (wBin oMul (wBin oAdd (wBin oIx (wVar 0) (wC (.int 0))) (wBin oMul (wC (.int 7919)) (wBin oIx (wVar 0) (wC (.int 1))))) (wC (.int 48271))) wNil)) (wC (.int 2147483647))))
    (wSeq (wSet 3 (wBin oMod (wCB oInt (wCons (wBin oMul (wVar 3) (wBin oAdd (wBin oDiv (wVar 3) (wC (.int 1009))) (wC (.int 69621)))) wNil)) (wC (.int 2147483647))))
    (wSeq (wSet 3 (wBin oMod (wCB oInt (wCons (wBin oMul (wVar 3) (wBin oAdd (wBin oDiv (wVar 3) (wC (.int 2003))) (wC (.int 40692)))) wNil)) (wC (.int 2147483399))))
    (wRet (wBin oMod (wCB oInt (wCons (wBin oDiv (wVar 3) (wC (.int 16))) wNil)) (wVar 1)))))))))
abbrev sp_L_law_windows (K : PySem.W.Frag) (c : CA) : Sp := spD K (TT c) (p_L_law_windows c)
abbrev c_L_law_windows (c : CA) : TDc := callM (p_L_law_windows c)
theorem cc_L_law_windows {K : PySem.W.Frag} {c : CA} : Callee K (TT c) (sp_L_law_windows K c) (c_L_law_windows c) := calleeM
def w_L_law_windows (c : CA) : TDs :=
    (wSeq (wSet 3 (wCal (c_L_law_draw c) (wCons (wVar 0) (wCons (wC (.int 4)) wNil))))
    (wSeq (wNew 4 (wLst wNil))
    (wSeq (wSet 5 (wBin oAdd (wVar 2) (wCal (c_L_law_draw c) (wCons (wVar 0) (wCons (wBin oAdd (wVar 2) (wC (.int 1))) wNil)))))
    (wSeq (wFor (wRng1 (wCons (wVar 1) wNil)) (gN 6) (wSeq (wSet 7 (wCal (c_L_law_draw c) (wCons (wVar 0) (wCons (wBin oAdd (wVar 2) (wC (.int 1))) wNil))))
    (wSeq (wSet 8 (wCal (c_L_law_draw c) (wCons (wVar 0) (wCons (wBin oAdd (wVar 2) (wC (.int 1))) wNil))))
    (wSeq (wIte (wAnd (wTst (wBin oEq (wVar 3) (wC (.int 0)))) (wTst (wBin oGt (wCal (c_L_law_draw c) (wCons (wVar 0) (wCons (wC (.int 4)) wNil))) (wC (.int 0))))) (wSeq (wSet 7 (wCal (c_L_law_draw c) (wCons (wVar 0) (wCons (wBin oAdd (wBin oDiv (wVar 5) (wC (.int 2))) (wC (.int 1))) wNil))))
    (wSet 8 (wBin oSub (wVar 5) (wVar 7)))) wSkip)
    (wSeq (wIte (wTst (wBin oEq (wVar 3) (wC (.int 1)))) (wSeq (wSet 7 (wBin oAdd (wVar 6) (wCal (c_L_law_draw c) (wCons (wVar 0) (wCons (wC (.int 2)) wNil)))))
    (wSet 8 (wBin oAdd (wBin oAdd (wVar 7) (wC (.int 2))) (wCal (c_L_law_draw c) (wCons (wVar 0) (wCons (wC (.int 2)) wNil)))))) wSkip)
    (wDrop (wApp (wVar 4) (wTup (wCons (wCB oMin2 (wCons (wVar 7) (wCons (wVar 8) wNil))) (wCons (wCB oMax2 (wCons (wVar 7) (wCons (wVar 8) wNil))) wNil))))))))))
    (wRet (wCB oTuple (wCons (wVar 4) wNil)))))))
abbrev sp_L_law_row (K : PySem.W.Frag) (c : CA) : Sp := spD K (TT c) (p_L_law_row c)
abbrev c_L_law_row (c : CA) : TDc := callM (p_L_law_row c)
theorem cc_L_law_row {K : PySem.W.Frag} {c : CA} : Callee K (TT c) (sp_L_law_row K c) (c_L_law_row c) := calleeM
def w_L_law_row (c : CA) : TDs :=
    (wSeq (wNew 2 (wCB oList (wCons (wVar 1) wNil)))
    (wRet (wCB oTuple (wCons (wLc (wRng1 (wCons (wCB oLen (wCons (wVar 1) wNil)) wNil)) (gN 3) wYes (wPop (wVar 2) (wCal (c_L_law_draw c) (wCons (wVar 0) (wCons (wCB oLen (wCons (wVar 2) wNil)) wNil)))) [3]) wNil))))
abbrev sp_L_law_some (K : PySem.W.Frag) (c : CA) : Sp := spD K (TT c) (p_L_law_some c)
abbrev c_L_law_some (c : CA) : TDc := callM (p_L_law_some c)
theorem cc_L_law_some {K : PySem.W.Frag} {c : CA} : Callee K (TT c) (sp_L_law_some K c) (c_L_law_some c) := calleeM
def w_L_law_some (c : CA) : TDs :=
    (wSeq (wSet 2 (wBin oIx (wLst (wCons (wC (.int 1)) (wCons (wC (.int 2)) (wCons (wC (.int 4)) wNil)))) (wCal (c_L_law_draw c) (wCons (wVar 0) (wCons (wC (.int 3)) wNil)))))
    (wRet (wCB oTupX (wCons (wLc (wRng1 (wCons (wVar 1) wNil)) (gN 3) (wTst (wBin oGt (wCal (c_L_law_draw c) (wCons (wVar 0) (wCons (wBin oAdd (wVar 2) (wC (.int 1))) wNil))) (wC (.int 0)))) (wVar 3) [3]) wNil))))
abbrev sp_L_law_is_int (K : PySem.W.Frag) (c : CA) : Sp := spP K (TT c) (f_L_law_is_int c)
abbrev c_L_law_is_int (c : CA) : TDc := callP (f_L_law_is_int c)
theorem cc_L_law_is_int {K : PySem.W.Frag} {c : CA} : Callee K (TT c) (sp_L_law_is_int K c) (c_L_law_is_int c) := calleeP
def w_L_law_is_int (c : CA) : TDs :=
    (wRet (wAndV (wCB oIsi (wCons (wVar 0) (wCons (wC (.ty "int")) wNil))) (wNotV (wCB oIsi (wCons (wVar 0) (wCons (wC (.ty "bool")) wNil))))))
abbrev sp_L_law_regret (K : PySem.W.Frag) (c : CA) : Sp := spP K (TT c) (f_L_law_regret c)
abbrev c_L_law_regret (c : CA) : TDc := callP (f_L_law_regret c)
theorem cc_L_law_regret {K : PySem.W.Frag} {c : CA} : Callee K (TT c) (sp_L_law_regret K c) (c_L_law_regret c) := calleeP
def w_L_law_regret (c : CA) : TDs :=
    (wSeq (wSet 2 (wC (.int 0)))
    (wSeq (wFor (wRng1 (wCons (wCB oLen (wCons (wVar 1) wNil)) wNil)) (gN 3) (wFor (wRng2 (wCons (wBin oAdd (wVar 3) (wC (.int 1))) (wCons (wCB oLen (wCons (wVar 1) wNil)) wNil))) (gN 4) (wSeq (wSet 5 (wSl oSl (wVar 1) (wOSome (wVar 3)) (wOSome (wBin oAdd (wVar 4) (wC (.int 1))))))
    (wSeq (wSet 6 (wBin oSub (wBin oIx (wBin oIx (wVar 0) (wBin oIx (wVar 1) (wVar 3))) (wC (.int 0))) (wBin oIx (wBin oIx (wVar 0) (wBin oIx (wVar 1) (wVar 4))) (wC (.int 1)))))
    (wFor (wSeqI (wVar 5)) (gN 7) (wFor (wSeqI (wVar 5)) (gN 8) (wIte (wTst (wBin oNe (wVar 7) (wVar 8))) (wSet 2 (wCB oMax2 (wCons (wVar 2) (wCons (wBin oAdd (wBin oSub (wVar 6) (wBin oIx (wBin oIx (wVar 0) (wVar 7)) (wC (.int 0)))) (wBin oIx (wBin oIx (wVar 0) (wVar 8)) (wC (.int 1)))) wNil)))) wSkip)))))))
    (wRet (wVar 2))))
abbrev sp_L_law_right (K : PySem.W.Frag) (c : CA) : Sp := spP K (TT c) (f_L_law_right c)
abbrev c_L_law_right (c : CA) : TDc := callP (f_L_law_right c)
theorem cc_L_law_right {K : PySem.W.Frag} {c : CA} : Callee K (TT c) (sp_L_law_right K c) (c_L_law_right c) := calleeP
def w_L_law_right (c : CA) : TDs :=
    (wSeq (wSet 3 (wCal (c_regret c) (wCons (wVar 0) (wCons (wVar 1) wNil))))
    (wRet (wAndV (wCal (c_L_law_is_int c) (wCons (wVar 3) wNil)) (wBin oEq (wVar 3) (wVar 2)))))
abbrev sp_L_law_order (K : PySem.W.Frag) (c : CA) : Sp := spD K (TT c) (p_L_law_order c)
abbrev c_L_law_order (c : CA) : TDc := callM (p_L_law_order c)
theorem cc_L_law_order {K : PySem.W.Frag} {c : CA} : Callee K (TT c) (sp_L_law_order K c) (c_L_law_order c) := calleeM
def w_L_law_order (c : CA) : TDs :=
    (wSeq (wSet 2 (wCal (c_L_law_row c) (wCons (wVar 0) (wCons (wTupR (wRg1 (wCB oLen (wCons (wVar 1) wNil)))) wNil))))
    (wSeq (wIte (wTst (wBin oEq (wCal (c_L_law_draw c) (wCons (wVar 0) (wCons (wC (.int 2)) wNil))) (wC (.int 0)))) (wRet (wCB oTuple (wCons (wSortL 3 (wVar 2) (wBin oAdd (wBin oIx (wBin oIx (wVar 1) (wVar 3)) (wC (.int 0))) (wBin oIx (wBin oIx (wVar 1) (wVar 3)) (wC (.int 1))))) wNil))) wSkip)
    (wRet (wVar 2))))
abbrev sp_law (K : PySem.W.Frag) (c : CA) : Sp := spP K (TT c) (f_law c)
abbrev c_law (c : CA) : TDc := callP (f_law c)
theorem cc_law {K : PySem.W.Frag} {c : CA} : Callee K (TT c) (sp_law K c) (c_law c) := calleeP
def w_law (c : CA) : TDs :=
    (wSeq (wSet 1 (wCal (c_L_law_pool c) (wCons (wVar 0) wNil)))
    (wSeq (wSet 2 (wBin oAdd (wC (.int 1)) (wCal (c_L_law_draw c) (wCons (wVar 1) (wCons (wBin oIx (wLst (wCons (wC (.int 9)) (wCons (wC (.int 9)) (wCons (wC (.int 9)) (wCons (wC (.int 16)) wNil))))) (wCal (c_L_law_draw c) (wCons (wVar 1) (wCons (wC (.int 4)) wNil)))) wNil)))))
    (wSeq (wIte (wTst (wBin oEq (wCal (c_L_law_draw c) (wCons (wVar 1) (wCons (wC (.int 24)) wNil))) (wC (.int 5)))) (wSet 2 (wBin oAdd (wC (.int 17)) (wCal (c_L_law_draw c) (wCons (wVar 1) (wCons (wC (.int 24)) wNil))))) wSkip)
    (wSeq (wSet 3 (wCal (c_L_law_windows c) (wCons (wVar 1) (wCons (wVar 2) (wCons (wBin oIx (wLst (wCons (wC (.int 5)) (wCons (wC (.int 12)) (wCons (wBin oPow (wC (.int 10)) (wC (.int 5))) wNil)))) (wCal (c_L_law_draw c) (wCons (wVar 1) (wCons (wC (.int 3)) wNil)))) wNil)))))
    (wSeq (wSet 4 (wMakeI c.Book (c_Book_init c) (wCons (wVar 3) wNil)))
    (wSeq (wSet 5 (wCal (c_mirrored c) (wCons (wVar 4) wNil)))
    (wSeq (wSet 6 (wCal (c_shifted c) (wCons (wVar 4) (wCons (wCal (c_L_law_draw c) (wCons (wVar 1) (wCons (wBin oPow (wC (.int 10)) (wC (.int 6))) wNil))) wNil))))
    (wSeq (wFor (wRng1 (wCons (wC (.int 3)) wNil)) (gN 7) (wSeq (wSet 8 (wCal (c_L_law_order c) (wCons (wVar 1) (wCons (wVar 3) wNil))))
    (wSeq (wSet 9 (wCal (c_L_law_regret c) (wCons (wVar 3) (wCons (wVar 8) wNil))))
    (wSeq (wIte (wTst (wBin oGt (wVar 2) (wC (.int 16)))) (wRet (wAndV (wCal (c_L_law_right c) (wCons (wVar 4) (wCons (wVar 8) (wCons (wVar 9) wNil)))) (wCal (c_L_law_right c) (wCons (wVar 5) (wCons (wRevT (wVar 8)) (wCons (wVar 9) wNil)))))) wSkip)
    (wSeq (wIte (wOr (wNot (wTst (wCal (c_L_law_right c) (wCons (wVar 4) (wCons (wVar 8) (wCons (wVar 9) wNil)))))) (wNot (wTst (wCal (c_L_law_right c) (wCons (wVar 5) (wCons (wRevT (wVar 8)) (wCons (wVar 9) wNil))))))) (wRet (wC (.bl false))) wSkip)
    (wSeq (wIte (wOr (wNot (wTst (wCal (c_L_law_right c) (wCons (wVar 6) (wCons (wVar 8) (wCons (wVar 9) wNil)))))) (wNot (wTst (wCal (c_L_law_right c) (wCons (wVar 4) (wCons (wRevT (wVar 8)) (wCons (wCal (c_L_law_regret c) (wCons (wVar 3) (wCons (wRevT (wVar 8)) wNil))) wNil))))))) (wRet (wC (.bl false))) wSkip)
    (wSeq (wSet 10 (wCal (c_L_law_some c) (wCons (wVar 1) (wCons (wVar 2) wNil))))
    (wIte (wTst (wBin oGt (wCB oLen (wCons (wVar 10) wNil)) (wC (.int 0)))) (wSeq (wSet 11 (wCB oTuple (wCons (wLc (wSeqI (wVar 8)) (gN 13) (wTst (wBin (oIn false) (wVar 13) (wVar 10))) (wTix (wVar 10) (wVar 13)) [13]) wNil)))
    (wSeq (wSet 12 (wCal (c_regret c) (wCons (wCal (c_part c) (wCons (wVar 4) (wCons (wVar 10) wNil))) (wCons (wVar 11) wNil))))
    (wIte (wOr (wTst (wBin oNe (wVar 12) (wCal (c_L_law_regret c) (wCons (wLc (wSeqI (wVar 10)) (gN 13) wYes (wBin oIx (wVar 3) (wVar 13)) [13]) (wCons (wVar 11) wNil))))) (wTst (wBin oGt (wVar 12) (wVar 9)))) (wRet (wC (.bl false))) wSkip))) wSkip))))))))
    (wRet (wC (.bl true)))))))))))
end K72
namespace K72
open PySem L2 DL
/-! ### places -/
theorem single_sub {r : List Nat} {b : Nat} : [b].Sublist r ↔ b ∈ r := List.singleton_sublist
theorem bef_iff {r : List Nat} {a b : Nat} : Bef r a b ↔ ∃ x y : Nat, x < y ∧ r[x]? = some a ∧ r[y]? = some b := by
  unfold Bef
  induction r with
  | nil => simp
  | cons c r ih =>
    rw [List.sublist_cons_iff]
    constructor
    · rintro (h | ⟨t, e, h⟩)
      · obtain ⟨x, y, h1, h2, h3⟩ := ih.mp h
        exact ⟨x + 1, y + 1, by omega, by simpa using h2, by simpa using h3⟩
      · injection e with e1 e2
        subst e1
        subst e2
        obtain ⟨y, hy, e⟩ := List.getElem_of_mem (single_sub.mp h)
        exact ⟨0, y + 1, by omega, rfl, by simp [List.getElem?_eq_getElem hy, e]⟩
    · rintro ⟨x, y, h1, h2, h3⟩
      obtain ⟨y, rfl⟩ : ∃ z, y = z + 1 := ⟨y - 1, by omega⟩
      have h3' : r[y]? = some b := by simpa using h3
      cases x with
      | zero =>
        have : c = a := by simpa using h2
        subst this
        exact .inr ⟨[b], rfl, single_sub.mpr (List.mem_of_getElem? h3')⟩
      | succ x => exact .inl (ih.mpr ⟨x, y, by omega, by simpa using h2, h3'⟩)
theorem befE_iff {r : List Nat} {a b : Nat} : BefE r a b ↔ ∃ x y : Nat, x ≤ y ∧ r[x]? = some a ∧ r[y]? = some b := by
  unfold BefE
  rw [bef_iff]
  constructor
  · rintro (⟨rfl, h⟩ | ⟨x, y, h, h1, h2⟩)
    · obtain ⟨y, hy, e⟩ := List.getElem_of_mem h
      exact ⟨y, y, Nat.le_refl _, by simp [List.getElem?_eq_getElem hy, e], by simp [List.getElem?_eq_getElem hy, e]⟩
    · exact ⟨x, y, by omega, h1, h2⟩
  · rintro ⟨x, y, h, h1, h2⟩
    by_cases e : x = y
    · subst e
      rw [h1] at h2
      exact .inl ⟨Option.some.inj h2, List.mem_of_getElem? h1⟩
    · exact .inr ⟨x, y, by omega, h1, h2⟩
theorem nd_ix {r : List Nat} (nd : r.Nodup) {x y a : Nat} (h1 : r[x]? = some a) (h2 : r[y]? = some a) : x = y := by
  obtain ⟨p, e1⟩ := List.getElem?_eq_some_iff.mp h1
  obtain ⟨q, e2⟩ := List.getElem?_eq_some_iff.mp h2
  exact (List.getElem_inj nd).mp (e1.trans e2.symm)
/-- the places of a stretch -/
theorem quad_iff {r : List Nat} (nd : r.Nodup) {i j f l : Nat} : Quad r i j f l ↔ ∃ x y u v : Nat, r[x]? = some i ∧ r[y]? = some j ∧ r[u]? = some f ∧ r[v]? = some l ∧ x < y ∧ x ≤ u ∧ u ≤ y ∧ x ≤ v ∧ v ≤ y ∧ u ≠ v := by
  constructor
  · rintro ⟨h1, h2, h3, h4, h5, h6⟩
    obtain ⟨x, y, a1, a2, a3⟩ := bef_iff.mp h1
    obtain ⟨x2, u, b1, b2, b3⟩ := befE_iff.mp h3
    obtain ⟨u2, y2, c1, c2, c3⟩ := befE_iff.mp h4
    obtain ⟨x3, v, d1, d2, d3⟩ := befE_iff.mp h5
    obtain ⟨v2, y3, e1, e2, e3⟩ := befE_iff.mp h6
    have := nd_ix nd a2 b2
    have := nd_ix nd a2 d2
    have := nd_ix nd a3 c3
    have := nd_ix nd a3 e3
    have := nd_ix nd b3 c2
    have := nd_ix nd d3 e2
    refine ⟨x, y, u, v, a2, a3, b3, d3, a1, by omega, by omega, by omega, by omega, fun e => h2 ?_⟩
    subst e
    rw [b3] at d3
    exact Option.some.inj d3
  · rintro ⟨x, y, u, v, a, b, c, d, h1, h2, h3, h4, h5, h6⟩
    exact ⟨bef_iff.mpr ⟨x, y, h1, a, b⟩, fun e => h6 (nd_ix nd c (by rw [e]; exact d)), befE_iff.mpr ⟨x, u, h2, a, c⟩, befE_iff.mpr ⟨u, y, h3, c, b⟩, befE_iff.mpr ⟨x, v, h4, a, d⟩, befE_iff.mpr ⟨v, y, h5, d, b⟩⟩
theorem IsReg.uniq {ws r h h'} (a : IsReg ws r h) (b : IsReg ws r h') : h = h' := by
  have one : ∀ {h h'}, IsReg ws r h → IsReg ws r h' → h ≤ h' := fun {h h'} a b => by
    rcases a.ex with e | ⟨i, j, f, l, q, e⟩
    · have := b.h0; omega
    · have := b.all _ _ _ _ q; omega
  have := one a b
  have := one b a
  omega
theorem Shows.reg {ws r h works} (s : Shows ws (Quad r) h works) : IsReg ws r h := ⟨s.h0, s.all, s.ex.imp (fun e => e.1) fun e => let ⟨_, i, j, f, l, _, q, e⟩ := e; ⟨i, j, f, l, q, e⟩⟩
theorem IsRow.sub {n : Nat} {r s : List Nat} (h : IsRow n r) (hs : s.Sublist r) : IsRow n s := ⟨h.nd.sublist hs, fun w hw => h.lt w (hs.subset hw)⟩
/-- stretches of a begin -/
theorem quad_snoc {r : List Nat} {w : Nat} (nd : (r ++ [w]).Nodup) {i j f l : Nat} : Quad (r ++ [w]) i j f l ↔ Quad r i j f l ∨ (Quad (r ++ [w]) i j f l ∧ j = w) := by
  have ndr : r.Nodup := nd.sublist (List.sublist_append_left _ _)
  constructor
  · intro h
    obtain ⟨x, y, u, v, a, b, c, d, h1, h2, h3, h4, h5, h6⟩ := (quad_iff nd).mp h
    by_cases hy : y < r.length
    · left
      rw [List.getElem?_append_left (by omega)] at a b c d
      exact (quad_iff ndr).mpr ⟨x, y, u, v, a, b, c, d, h1, h2, h3, h4, h5, h6⟩
    · right
      have hl := (List.getElem?_eq_some_iff.mp b).1
      rw [List.length_append, List.length_singleton] at hl
      have e : y = r.length := by omega
      rw [e, List.getElem?_append_right (Nat.le_refl _), Nat.sub_self] at b
      exact ⟨h, (Option.some.inj b).symm⟩
  · rintro (h | h)
    · obtain ⟨x, y, u, v, a, b, c, d, h1, h2, h3, h4, h5, h6⟩ := (quad_iff ndr).mp h
      have up : ∀ {k z}, r[k]? = some z → (r ++ [w])[k]? = some z := fun {k z} e => by rw [List.getElem?_append_left (List.getElem?_eq_some_iff.mp e).1]; exact e
      exact (quad_iff nd).mpr ⟨x, y, u, v, up a, up b, up c, up d, h1, h2, h3, h4, h5, h6⟩
    · exact h.1
theorem last_snoc (r : List Nat) (w : Nat) : (r ++ [w]).getLast? = some w := by simp
/-- the regret of a row and one work more -/
theorem reg_snoc {ws : List Win} {r : List Nat} {w : Nat} {h h' : Int} {works : List Nat} (nd : (r ++ [w]).Nodup) (a : IsReg ws r h) (b : Shows ws (LastQ (r ++ [w])) h' works) : IsReg ws (r ++ [w]) (imax h h') := by
  have e := imax_eq h h'
  refine ⟨by have := a.h0; omega, fun i j f l q => ?_, ?_⟩
  · rcases (quad_snoc nd).mp q with q | ⟨q, rfl⟩
    · have := a.all _ _ _ _ q; omega
    · have := b.all i j f l ⟨q, last_snoc _ _⟩; omega
  · by_cases hc : h' ≤ h
    · have e2 : imax h h' = h := by omega
      rw [e2]
      exact a.ex.imp id fun ⟨i, j, f, l, q, z⟩ => ⟨i, j, f, l, (quad_snoc nd).mpr (.inl q), z⟩
    · have e2 : imax h h' = h' := by omega
      rw [e2]
      exact b.ex.imp (fun z => z.1) fun ⟨_, i, j, f, l, _, q, z⟩ => ⟨i, j, f, l, q.1, z⟩
/-- .. of a row behind a row -/
theorem reg_mono {ws : List Win} {r s : List Nat} {h h' : Int} (nd : (r ++ s).Nodup) (a : IsReg ws r h) (b : IsReg ws (r ++ s) h') : h ≤ h' := by
  rcases a.ex with e | ⟨i, j, f, l, q, e⟩
  · have := b.h0; omega
  · have ndr : r.Nodup := nd.sublist (List.sublist_append_left _ _)
    obtain ⟨x, y, u, v, a, b', c, d, h1, h2, h3, h4, h5, h6⟩ := (quad_iff ndr).mp q
    have up : ∀ {k z}, r[k]? = some z → (r ++ s)[k]? = some z := fun {k z} e => by rw [List.getElem?_append_left (List.getElem?_eq_some_iff.mp e).1]; exact e
    have := b.all _ _ _ _ ((quad_iff nd).mpr ⟨x, y, u, v, up a, up b', up c, up d, h1, h2, h3, h4, h5, h6⟩)
    omega
theorem reg_nil (ws : List Win) : IsReg ws [] 0 := ⟨Int.le_refl _, fun i j f l q => by obtain ⟨x, y, _, h, _⟩ := bef_iff.mp q.ij; simp at h, .inl rfl⟩

/-! ### turned about -/
theorem bef_rev {r : List Nat} {a b : Nat} : Bef r.reverse a b ↔ Bef r b a := by
  unfold Bef
  rw [show [a, b] = [b, a].reverse from rfl, List.reverse_sublist]
theorem befE_rev {r : List Nat} {a b : Nat} : BefE r.reverse a b ↔ BefE r b a := by
  unfold BefE
  rw [bef_rev, List.mem_reverse]
  constructor
  · rintro (⟨rfl, h⟩ | h)
    · exact .inl ⟨rfl, h⟩
    · exact .inr h
  · rintro (⟨rfl, h⟩ | h)
    · exact .inl ⟨rfl, h⟩
    · exact .inr h
theorem quad_rev {r : List Nat} {i j f l : Nat} : Quad r.reverse i j f l ↔ Quad r j i l f := by
  constructor
  · rintro ⟨h1, h2, h3, h4, h5, h6⟩
    exact ⟨bef_rev.mp h1, fun e => h2 e.symm, befE_rev.mp h6, befE_rev.mp h5, befE_rev.mp h4, befE_rev.mp h3⟩
  · rintro ⟨h1, h2, h3, h4, h5, h6⟩
    exact ⟨bef_rev.mpr h1, fun e => h2 e.symm, befE_rev.mpr h6, befE_rev.mpr h5, befE_rev.mpr h4, befE_rev.mpr h3⟩
theorem bgn_mir {top : Int} {ws : List Win} {w : Nat} (h : w < ws.length) : bgn (mir top ws) w = top - fin ws w := by
  unfold bgn fin mir
  simp [List.getD_eq_getElem?_getD, h]
theorem fin_mir {top : Int} {ws : List Win} {w : Nat} (h : w < ws.length) : fin (mir top ws) w = top - bgn ws w := by
  unfold bgn fin mir
  simp [List.getD_eq_getElem?_getD, h]
theorem Quad.mem {r i j f l} (q : Quad r i j f l) : i ∈ r ∧ j ∈ r ∧ f ∈ r ∧ l ∈ r := by
  obtain ⟨x, y, _, h1, h2⟩ := bef_iff.mp q.ij
  obtain ⟨_, u, _, _, h3⟩ := befE_iff.mp q.f1
  obtain ⟨_, v, _, _, h4⟩ := befE_iff.mp q.l1
  exact ⟨List.mem_of_getElem? h1, List.mem_of_getElem? h2, List.mem_of_getElem? h3, List.mem_of_getElem? h4⟩
theorem reg_mir {top : Int} {ws : List Win} {r : List Nat} {h : Int} (hr : IsRow ws.length r) (a : IsReg ws r h) : IsReg (mir top ws) r.reverse h := by
  have val : ∀ {i j f l}, Quad r j i l f → qv (mir top ws) i j f l = qv ws j i l f := fun {i j f l} q => by
    obtain ⟨m1, m2, m3, m4⟩ := q.mem
    unfold qv
    rw [bgn_mir (hr.lt _ m2), bgn_mir (hr.lt _ m4), fin_mir (hr.lt _ m3), fin_mir (hr.lt _ m1)]
    omega
  refine ⟨a.h0, fun i j f l q => ?_, a.ex.imp id fun ⟨i, j, f, l, q, e⟩ => ⟨j, i, l, f, quad_rev.mpr q, ?_⟩⟩
  · rw [val (quad_rev.mp q)]
    exact a.all _ _ _ _ (quad_rev.mp q)
  · rw [val q]
    exact e
theorem mir_mir (top : Int) (ws : List Win) : mir top (mir top ws) = ws := by
  unfold mir
  rw [List.map_map]
  conv => rhs; rw [← List.map_id ws]
  apply List.map_congr_left
  intro w _
  show ((top - (top - w.1), top - (top - w.2)) : Int × Int) = w
  rw [show top - (top - w.1) = w.1 by omega, show top - (top - w.2) = w.2 by omega]
theorem mir_len (top : Int) (ws : List Win) : (mir top ws).length = ws.length := by unfold mir; simp
theorem IsOrd.rev {n r} (h : IsOrd n r) : IsOrd n r.reverse := ⟨⟨(List.reverse_perm r).nodup_iff.mpr h.row.nd, fun w hw => h.row.lt w (List.mem_reverse.mp hw)⟩, by rw [List.length_reverse]; exact h.len⟩

/-! ### the order of rows -/
end K72

namespace K72
open PySem L2 DL
@[simp] theorem c_eNat (m w : Nat) : (eNat w).lt m = true := rfl
@[simp] theorem c_eNats (m : Nat) (r : List Nat) : ltL m (r.map eNat) = true := l_map m (fun _ => rfl) r
@[simp] theorem c_eRow (m : Nat) (r : List Nat) : (eRow r).lt m = true := by simp [eRow]
@[simp] theorem c_eRows (m : Nat) (r : List (List Nat)) : ltL m (r.map eRow) = true := l_map m (c_eRow m) r
@[simp] theorem c_eWs (m : Nat) (r : List Win) : (eWs r).lt m = true := by simp [eWs]
@[simp] theorem c_eBk (m : Nat) (c : CA) (b : Bool) (ws : List Win) : (eBk c b ws).lt m = true := by simp [eBk]
@[simp] theorem c_eT (m : Nat) (t : Bool) (r : List Nat) : (eT t r).lt m = true := by cases t <;> simp [eT, eRow, D.lt]
@[simp] theorem rn_eT (f : Nat → Nat) (t : Bool) (r : List Nat) : (eT t r).ren f = eT t r := ren_id (by simp)
@[simp] theorem an_eT (p : Nat → Bool) (t : Bool) (r : List Nat) : (eT t r).al p = true := al_of_lt (by simp)
@[simp] theorem sq_eT (M : List D) (t : Bool) (r : List Nat) : seqOf M (eT t r) = some (r.map eNat) := by cases t <;> rfl
@[simp] theorem tp_eT (t : Bool) (r : List Nat) : tupOf (eT t r) = some (r.map eNat) := by cases t <;> rfl
@[simp] theorem tpo_eRow (r : List Nat) : tupO (eRow r) = some (r.map eNat) := rfl
@[simp] theorem tpo_eWs (r : List Win) : tupO (eWs r) = some (r.map pD) := rfl
@[simp] theorem sqo_eRow (M : List D) (r : List Nat) : seqO M (eRow r) = some (r.map eNat) := rfl
@[simp] theorem sqo_eWs (M : List D) (r : List Win) : seqO M (eWs r) = some (r.map pD) := rfl
@[simp] theorem rn_eNat (f : Nat → Nat) (w : Nat) : (eNat w).ren f = eNat w := ren_id (by simp)
@[simp] theorem rn_eRow (f : Nat → Nat) (r : List Nat) : (eRow r).ren f = eRow r := ren_id (by simp)
@[simp] theorem rn_eWs (f : Nat → Nat) (r : List Win) : (eWs r).ren f = eWs r := ren_id (by simp)
@[simp] theorem rn_eBk (f : Nat → Nat) (c : CA) (b : Bool) (ws : List Win) : (eBk c b ws).ren f = eBk c b ws := ren_id (by simp)
@[simp] theorem an_eNat (p : Nat → Bool) (w : Nat) : (eNat w).al p = true := al_of_lt (by simp)
@[simp] theorem an_eRow (p : Nat → Bool) (r : List Nat) : (eRow r).al p = true := al_of_lt (by simp)
@[simp] theorem an_eWs (p : Nat → Bool) (r : List Win) : (eWs r).al p = true := al_of_lt (by simp)
@[simp] theorem an_eBk (p : Nat → Bool) (c : CA) (b : Bool) (ws : List Win) : (eBk c b ws).al p = true := al_of_lt (by simp)
@[simp] theorem sq_eRow (M : List D) (r : List Nat) : seqOf M (eRow r) = some (r.map eNat) := rfl
@[simp] theorem tp_eRow (r : List Nat) : tupOf (eRow r) = some (r.map eNat) := rfl
@[simp] theorem sq_eWs (M : List D) (r : List Win) : seqOf M (eWs r) = some (r.map pD) := rfl
@[simp] theorem bk_in (c : CA) (b : Bool) : (bkC c b = c.Book ∨ bkC c b = c.RawBook) = True := by cases b <;> simp [bkC]
theorem sz40 {n : Nat} (h : n ≤ 4000) : n ≤ sizeLine := by rw [sizeLine_eq]; omega
theorem all_true {α : Type} (xs : List α) : (xs.map fun _ => true).all id = true := by simp
theorem len_is_integer (c : CA) : ∀ ds M Fc, pureP (f_is_integer c) ds M Fc → ds.length = 1 := by
  rintro ds M Fc ⟨_, d, rfl, _⟩; rfl
theorem dw_is_integer (c : CA) : ∀ ds M Fc, pureP (f_is_integer c) ds M Fc → w_is_integer c (xcD M.length Fc) (finD M.length Fc) (startD ["thing"] ds) M := by
  rintro ds M Fc ⟨rfl, d, rfl, hd, q⟩
  show w_is_integer c (xcD 0 Fc) (finD 0 Fc) [some d] []
  cases d <;> first | exact hd.elim | skip
  all_goals
    simp [w_is_integer, isInt] at q ⊢
    exact ret0 rfl q
theorem len_is_within (c : CA) : ∀ ds M Fc, pureP (f_is_within c) ds M Fc → ds.length = 3 := by
  rintro ds M Fc ⟨_, d, a, b, rfl, _⟩; rfl
theorem dw_is_within (c : CA) : ∀ ds M Fc, pureP (f_is_within c) ds M Fc → w_is_within c (xcD M.length Fc) (finD M.length Fc) (startD ["thing", "least", "most"] ds) M := by
  rintro ds M Fc ⟨rfl, d, a, b, rfl, hd, q⟩
  show w_is_within c (xcD 0 Fc) (finD 0 Fc) [some d, some (.int a), some (.int b)] []
  simp [w_is_within]
  refine ⟨.inl rfl, d, rfl, hd, ?_⟩
  cases d <;> first | exact hd.elim | skip
  all_goals simp [isInt, within] at q ⊢
  all_goals first | exact ret0 rfl q | skip
  rename_i i
  by_cases h1 : a ≤ i
  · simp [h1] at q ⊢
    exact ret0 rfl q
  · simp [h1] at q ⊢
    exact ret0 rfl q
theorem len_is_pair (c : CA) : ∀ ds M Fc, pureP (f_is_pair c) ds M Fc → ds.length = 1 := by
  rintro ds M Fc ⟨_, d, rfl, _⟩; rfl
theorem dw_is_pair (c : CA) : ∀ ds M Fc, pureP (f_is_pair c) ds M Fc → w_is_pair c (xcD M.length Fc) (finD M.length Fc) (startD ["thing"] ds) M := by
  rintro ds M Fc ⟨rfl, p, rfl, q⟩
  show w_is_pair c (xcD 0 Fc) (finD 0 Fc) [some (pD p)] []
  simp [w_is_pair, pD]
  intro _
  exact ret0 rfl q
theorem len_is_window (c : CA) : ∀ ds M Fc, pureP (f_is_window c) ds M Fc → ds.length = 1 := by
  rintro ds M Fc ⟨_, d, rfl, _⟩; rfl
theorem dw_is_window (c : CA) : ∀ ds M Fc, pureP (f_is_window c) ds M Fc → w_is_window c (xcD M.length Fc) (finD M.length Fc) (startD ["thing"] ds) M := by
  rintro ds M Fc ⟨rfl, p, rfl, ok, q⟩
  show w_is_window c (xcD 0 Fc) (finD 0 Fc) [some (pD p)] []
  obtain ⟨h0, h1, h2⟩ := ok
  simp [w_is_window]
  refine ⟨.inl rfl, p, rfl, ?_⟩
  simp [pD]
  refine ⟨.inl rfl, .int p.1, 0, 1000000, rfl, trivial, ?_⟩
  simp [within, h0, show p.1 ≤ 1000000 by omega]
  refine ⟨.inl rfl, .int p.2, p.1, 1000000, rfl, trivial, ?_⟩
  simp [within, h1, h2]
  exact ret0 rfl q
theorem len_Book_init (c : CA) : ∀ ds M Fc, p_Book_init c ds M Fc → ds.length = 2 := by
  rintro ds M Fc ⟨ws, _, rfl, _⟩; rfl
theorem dw_Book_init (c : CA) : ∀ ds M Fc, p_Book_init c ds M Fc → w_Book_init c (xcD M.length Fc) (finD M.length Fc) (startD ["self", "windows", "window"] ds) M := by
  rintro ds M Fc ⟨ws, ok, rfl, rfl, q⟩
  show w_Book_init c (xcD 1 Fc) (finD 1 Fc) [some (.loc 0), some (eWs ws), none] [.ins c.Book []]
  have h0 := ok.h0
  have h1 := ok.h1
  have g0 : ¬ ws = [] := fun z => by rw [z] at h0; simp at h0
  have g1 : ¬ (40 : Int) < (ws.length : Nat) := by omega
  have g2 : (1 : Int) ≤ (ws.length : Nat) := by omega
  have g3 : ((ws.length : Nat) : Int) ≤ 40 := by omega
  simp [w_Book_init, eWs, g1, g2, g3]
  intro _
  refine ⟨sz40 (by omega), lcGo_map (fun _ => .bl true) (by simp) ws (fun w hw N hN => ?_) ?_⟩
  · simp
    exact ⟨.inr rfl, w, rfl, ok.all w hw, hN⟩
  · simp [putD2]
    exact retM (by simp) (by simp [eWs]) (by simp) q
theorem len_RawBook_init (c : CA) : ∀ ds M Fc, p_RawBook_init c ds M Fc → ds.length = 2 := by
  rintro ds M Fc ⟨ws, rfl, _⟩; rfl
theorem dw_RawBook_init (c : CA) : ∀ ds M Fc, p_RawBook_init c ds M Fc → w_RawBook_init c (xcD M.length Fc) (finD M.length Fc) (startD ["self", "windows"] ds) M := by
  rintro ds M Fc ⟨ws, rfl, rfl, q⟩
  show w_RawBook_init c (xcD 1 Fc) (finD 1 Fc) [some (.loc 0), some (eWs ws)] [.ins c.RawBook []]
  simp [w_RawBook_init, putD2]
  exact retM (by simp) (by simp) (by simp) q
theorem getD_of {M : List D} {k : Nat} {d : D} (h : M[k]? = some d) : M.getD k .non = d := by rw [List.getD_eq_getElem?_getD, h]; rfl
theorem call_book {c : CA} {ws : List Win} {k : Nat} {M : List D} {xc : XC} {rho : Rho} {Phi : D → List D → Prop} (ok : BookOk ws) (hM : M[k]? = some (.ins c.Book [])) (q : Phi .non (M.set k (eBk c true ws))) : c_Book_init c xc rho [.loc k, eWs ws] M Phi := by
  have hk : k < M.length := (List.getElem?_eq_some_iff.mp hM).1
  have eg := getD_of hM
  refine callM_of (P := p_Book_init c) [k] (by simp) (by simpa using hk) (by simp [inKs]) (fun j hj => by rw [List.mem_singleton.mp hj, eg]; simp) ⟨ws, ok, by simp, by simp only [fr_c, eg, rn_ins, rn_fn], ?_⟩
  simp only [mg_1, rn_eBk, s_ren0]
  exact q
theorem call_raw {c : CA} {ws : List Win} {k : Nat} {M : List D} {xc : XC} {rho : Rho} {Phi : D → List D → Prop} (hM : M[k]? = some (.ins c.RawBook [])) (q : Phi .non (M.set k (eBk c false ws))) : c_RawBook_init c xc rho [.loc k, eWs ws] M Phi := by
  have hk : k < M.length := (List.getElem?_eq_some_iff.mp hM).1
  have eg := getD_of hM
  refine callM_of (P := p_RawBook_init c) [k] (by simp) (by simpa using hk) (by simp [inKs]) (fun j hj => by rw [List.mem_singleton.mp hj, eg]; simp) ⟨ws, by simp, by simp only [fr_c, eg, rn_ins, rn_fn], ?_⟩
  simp only [mg_1, rn_eBk, s_ren0]
  exact q
theorem len_raw_book (c : CA) : ∀ ds M Fc, pureP (f_raw_book c) ds M Fc → ds.length = 1 := by
  rintro ds M Fc ⟨_, ws, rfl, _⟩; rfl
theorem dw_raw_book (c : CA) : ∀ ds M Fc, pureP (f_raw_book c) ds M Fc → w_raw_book c (xcD M.length Fc) (finD M.length Fc) (startD ["windows"] ds) M := by
  rintro ds M Fc ⟨rfl, ws, rfl, q⟩
  show w_raw_book c (xcD 0 Fc) (finD 0 Fc) [some (.lst (ws.map pD))] []
  simp [w_raw_book]
  refine call_raw (ws := ws) rfl ?_
  simp
  exact ret0 (by simp) q
theorem len_many_of (c : CA) : ∀ ds M Fc, pureP (f_many_of c) ds M Fc → ds.length = 1 := by
  rintro ds M Fc ⟨_, b, ws, rfl, _⟩; rfl
theorem dw_many_of (c : CA) : ∀ ds M Fc, pureP (f_many_of c) ds M Fc → w_many_of c (xcD M.length Fc) (finD M.length Fc) (startD ["book"] ds) M := by
  rintro ds M Fc ⟨rfl, b, ws, rfl, q⟩
  show w_many_of c (xcD 0 Fc) (finD 0 Fc) [some (eBk c b ws)] []
  simp [w_many_of, eBk, eWs]
  intro _
  exact ret0 rfl (by simpa [eNat] using q)
theorem len_first_of (c : CA) : ∀ ds M Fc, pureP (f_first_of c) ds M Fc → ds.length = 2 := by
  rintro ds M Fc ⟨_, b, ws, w, rfl, _⟩; rfl
theorem dw_first_of (c : CA) : ∀ ds M Fc, pureP (f_first_of c) ds M Fc → w_first_of c (xcD M.length Fc) (finD M.length Fc) (startD ["book", "work"] ds) M := by
  rintro ds M Fc ⟨rfl, b, ws, w, rfl, hw, q⟩
  show w_first_of c (xcD 0 Fc) (finD 0 Fc) [some (eBk c b ws), some (eNat w)] []
  simp [w_first_of, eBk, eWs, eNat, at_nat, hw, pD]
  exact ret0 rfl (by simpa [bgn, fin, hw] using q)
theorem len_last_of (c : CA) : ∀ ds M Fc, pureP (f_last_of c) ds M Fc → ds.length = 2 := by
  rintro ds M Fc ⟨_, b, ws, w, rfl, _⟩; rfl
theorem dw_last_of (c : CA) : ∀ ds M Fc, pureP (f_last_of c) ds M Fc → w_last_of c (xcD M.length Fc) (finD M.length Fc) (startD ["book", "work"] ds) M := by
  rintro ds M Fc ⟨rfl, b, ws, w, rfl, hw, q⟩
  show w_last_of c (xcD 0 Fc) (finD 0 Fc) [some (eBk c b ws), some (eNat w)] []
  simp [w_last_of, eBk, eWs, eNat, at_nat, hw, pD]
  exact ret0 rfl (by simpa [bgn, fin, hw] using q)
theorem len_is_work (c : CA) : ∀ ds M Fc, pureP (f_is_work c) ds M Fc → ds.length = 2 := by
  rintro ds M Fc ⟨_, b, ws, w, rfl, _⟩; rfl
theorem dw_is_work (c : CA) : ∀ ds M Fc, pureP (f_is_work c) ds M Fc → w_is_work c (xcD M.length Fc) (finD M.length Fc) (startD ["book", "thing"] ds) M := by
  rintro ds M Fc ⟨rfl, b, ws, w, rfl, hw, q⟩
  show w_is_work c (xcD 0 Fc) (finD 0 Fc) [some (eBk c b ws), some (eNat w)] []
  simp [w_is_work]
  refine ⟨.inl rfl, b, ws, rfl, ?_⟩
  simp [eNat]
  refine ⟨.inl rfl, _, _, _, rfl, trivial, ?_⟩
  simp [within, show ((w : Nat) : Int) ≤ (ws.length : Int) - 1 by omega]
  exact ret0 rfl q
theorem len_is_row (c : CA) : ∀ ds M Fc, pureP (f_is_row c) ds M Fc → ds.length = 2 := by
  rintro ds M Fc ⟨_, b, ws, t, w, rfl, _⟩; rfl
theorem nodup_int {r : List Nat} (h : r.Nodup) : (r.map fun (w : Nat) => (w : Int)).Nodup := List.Pairwise.map _ (fun x y h e => h (by omega)) h
theorem dw_is_row (c : CA) : ∀ ds M Fc, pureP (f_is_row c) ds M Fc → w_is_row c (xcD M.length Fc) (finD M.length Fc) (startD ["book", "thing", "work"] ds) M := by
  rintro ds M Fc ⟨rfl, b, ws, t, r, rfl, hr, hl, q⟩
  show w_is_row c (xcD 0 Fc) (finD 0 Fc) [some (eBk c b ws), some (eT t r), none] []
  cases t <;> (
  simp [w_is_row, eT, eRow]
  intro _
  refine ⟨sz40 hl, lcGo_map (fun _ => .bl true) (by first | trivial | simp) r (fun w hw N hN => ?_) ?_⟩
  · simp
    exact ⟨.inl rfl, b, ws, w, rfl, hr.lt w hw, hN⟩
  · simp
    refine ⟨r.map fun (w : Nat) => (w : Int), ?_, by simpa using hl, ?_⟩
    · simp [eNat, Function.comp_def]
    · rw [distinct_nodup (nodup_int hr.nd)]
      simp
      intro _
      exact ret0 rfl q)
theorem len_is_order (c : CA) : ∀ ds M Fc, pureP (f_is_order c) ds M Fc → ds.length = 2 := by
  rintro ds M Fc ⟨_, b, ws, w, rfl, _⟩; rfl
theorem dw_is_order (c : CA) : ∀ ds M Fc, pureP (f_is_order c) ds M Fc → w_is_order c (xcD M.length Fc) (finD M.length Fc) (startD ["book", "thing"] ds) M := by
  rintro ds M Fc ⟨rfl, b, ws, r, rfl, hr, hl, q⟩
  show w_is_order c (xcD 0 Fc) (finD 0 Fc) [some (eBk c b ws), some (eRow r)] []
  simp [w_is_order]
  refine ⟨.inl rfl, b, ws, false, r, rfl, hr.row, hl, ?_⟩
  simp [eRow]
  intro _
  refine ⟨.inl rfl, b, ws, rfl, ?_⟩
  simp [eNat, hr.len]
  exact ret0 rfl q
theorem len_check_order (c : CA) : ∀ ds M Fc, pureP (f_check_order c) ds M Fc → ds.length = 2 := by
  rintro ds M Fc ⟨_, b, ws, w, rfl, _⟩; rfl
theorem dw_check_order (c : CA) : ∀ ds M Fc, pureP (f_check_order c) ds M Fc → w_check_order c (xcD M.length Fc) (finD M.length Fc) (startD ["book", "thing"] ds) M := by
  rintro ds M Fc ⟨rfl, b, ws, r, rfl, hr, hl, q⟩
  show w_check_order c (xcD 0 Fc) (finD 0 Fc) [some (eBk c b ws), some (eRow r)] []
  simp [w_check_order]
  refine ⟨.inl rfl, b, ws, r, rfl, hr, hl, ?_⟩
  simp
  exact ret0 rfl q
theorem len_mirrored (c : CA) : ∀ ds M Fc, pureP (f_mirrored c) ds M Fc → ds.length = 1 := by
  rintro ds M Fc ⟨_, b, ws, rfl, _⟩; rfl
theorem dw_mirrored (c : CA) : ∀ ds M Fc, pureP (f_mirrored c) ds M Fc → w_mirrored c (xcD M.length Fc) (finD M.length Fc) (startD ["book", "top", "first", "last"] ds) M := by
  rintro ds M Fc ⟨rfl, b, ws, rfl, h0, h4, q⟩
  show w_mirrored c (xcD 0 Fc) (finD 0 Fc) [some (eBk c b ws), none, none, none] []
  have hl : 0 < ws.length := List.length_pos_iff.mpr h0
  simp [w_mirrored, eBk, eWs]
  intro hz
  refine ⟨hz, lcGo_map (fun w => .int w.2) (by simp) ws (fun w hw N hN => ?_) ?_⟩
  · simpa [pD] using hN
  · simp
    refine ⟨hl, fun top _ _ _ _ => ?_⟩
    refine ⟨hz, lcGo_map (fun w => pD (top - w.2, top - w.1)) (by simp) ws (fun w hw N hN => ?_) ?_⟩
    · simpa [pD] using hN
    · simp
      refine ⟨.inl rfl, mir top ws, by simp [mir, Function.comp_def], ?_⟩
      exact ret0 (by simp) (q top)
end K72

namespace K72
open PySem L2 DL
theorem nat_inj {a b : Nat} : ((a : Nat) : Int) = (b : Nat) ↔ a = b := by omega
theorem sortL_nat {i : Nat} {wk : TDe} {rho : Rho} {M : List D} {r : List Nat} {Phi : D → List D → Prop} (g : Nat → Int) (h : ∀ w, w ∈ r → ∀ N : D → List D → Prop, N (.int (g w)) M → wk xc0 (rho.set i (some (eNat w))) M N)
    (q : Phi (.lst ((r.mergeSort fun a b => decide (g a ≤ g b)).map eNat)) M) : k1_wSortL i wk rho Phi (eRow r) M := by
  have hg : ∀ d : D, ∃ k : Int, ∀ w : Nat, d = eNat w → k = g w := fun d => by
    cases d with
    | int j => exact ⟨g j.toNat, fun w e => by injection e with e; rw [e]; rfl⟩
    | _ => exact ⟨0, fun w e => by cases e⟩
  let f : D → Int := fun d => (hg d).choose
  have hf : ∀ w : Nat, f (eNat w) = g w := fun w => (hg (eNat w)).choose_spec w rfl
  refine sortL_int f (ds := r.map eNat) rfl (fun _ x hx N hN => ?_) ?_
  · obtain ⟨w, hw, rfl⟩ := List.mem_map.mp hx
    exact h w hw N (by rw [← hf]; exact hN)
  · rw [← List.map_mergeSort (r := fun a b => decide (g a ≤ g b)) (fun a _ b _ => by rw [hf, hf])]
    exact q
theorem two_least {r : List Nat} (g : Nat → Int) (nd : r.Nodup) (h2 : 2 ≤ r.length) : ∃ a b t, (r.mergeSort fun a b => decide (g a ≤ g b)) = a :: b :: t ∧ a ∈ r ∧ b ∈ r ∧ a ≠ b ∧ (∀ z, z ∈ r → g a ≤ g z) ∧ (∀ z, z ∈ r → z ≠ a → g b ≤ g z) := by
  have hp := List.mergeSort_perm r (fun a b => decide (g a ≤ g b))
  have hs := List.pairwise_mergeSort (le := fun a b => decide (g a ≤ g b)) (fun a b c h1 h2 => by simp at *; omega) (fun a b => by simp; omega) r
  generalize r.mergeSort (fun a b => decide (g a ≤ g b)) = s at hp hs
  have hl := hp.length_eq
  match s, hl with
  | [], hl => simp at hl; omega
  | [_], hl => simp at hl; omega
  | a :: b :: t, _ =>
    have nds := hp.nodup_iff.mpr nd
    have sa : ∀ z, z ∈ b :: t → g a ≤ g z := fun z hz => by simpa using (List.pairwise_cons.mp hs).1 z hz
    have sb : ∀ z, z ∈ t → g b ≤ g z := fun z hz => by simpa using (List.pairwise_cons.mp (List.pairwise_cons.mp hs).2).1 z hz
    refine ⟨a, b, t, rfl, hp.subset (by simp), hp.subset (by simp), fun e => by subst e; simp at nds, fun z hz => ?_, fun z hz hne => ?_⟩
    · rcases List.mem_cons.mp (hp.symm.subset hz) with rfl | h
      · exact Int.le_refl _
      · exact sa z h
    · rcases List.mem_cons.mp (hp.symm.subset hz) with e | h
      · exact absurd e hne
      · rcases List.mem_cons.mp h with rfl | h
        · exact Int.le_refl _
        · exact sb z h
/-! ### the widest of a row -/
def wv (ws : List Win) (o t : Nat) : Int := fin ws t - bgn ws o
def eWid (ws : List Win) : Option (Nat × Nat) → D
  | none => .non
  | some p => .tup [.int (wv ws p.1 p.2), eNat p.1, eNat p.2]
structure GoodW (ws : List Win) (S : Nat → Nat → Prop) (best : Option (Nat × Nat)) : Prop where
  no : best = none → ∀ o t, S o t → o = t
  yes : ∀ p, best = some p → p.1 ≠ p.2 ∧ S p.1 p.2 ∧ ∀ o t, S o t → o ≠ t → wv ws o t ≤ wv ws p.1 p.2
theorem GoodW.mono {ws S S' best} (h : GoodW ws S best) (e : ∀ o t, S o t ↔ S' o t) : GoodW ws S' best :=
  ⟨fun z o t s => h.no z o t ((e o t).mpr s), fun p z => let ⟨a, b, c⟩ := h.yes p z; ⟨a, (e _ _).mp b, fun o t s => c o t ((e o t).mpr s)⟩⟩
theorem GoodW.same {ws S best} {o t : Nat} (h : GoodW ws S best) (z : o = t ∨ ∃ p, best = some p ∧ wv ws o t ≤ wv ws p.1 p.2) : GoodW ws (fun o' t' => S o' t' ∨ (o' = o ∧ t' = t)) best := by
  refine ⟨fun e o' t' s => ?_, fun p e => ?_⟩
  · rcases s with s | ⟨rfl, rfl⟩
    · exact h.no e _ _ s
    · rcases z with z | ⟨p, e2, _⟩
      · exact z
      · rw [e] at e2; cases e2
  · obtain ⟨a, b, c⟩ := h.yes p e
    refine ⟨a, .inl b, fun o' t' s ne => ?_⟩
    rcases s with s | ⟨rfl, rfl⟩
    · exact c _ _ s ne
    · rcases z with z | ⟨p', e2, le⟩
      · exact absurd z ne
      · rw [e] at e2
        cases e2
        exact le
theorem GoodW.next {ws S best} {o t : Nat} (h : GoodW ws S best) (ne : o ≠ t) (z : ∀ p, best = some p → wv ws p.1 p.2 ≤ wv ws o t) : GoodW ws (fun o' t' => S o' t' ∨ (o' = o ∧ t' = t)) (some (o, t)) := by
  refine ⟨(fun e => by cases e), fun p e => ?_⟩
  cases e
  refine ⟨ne, .inr ⟨rfl, rfl⟩, fun o' t' s ne' => ?_⟩
  rcases s with s | ⟨rfl, rfl⟩
  · cases hb : best with
    | none => exact absurd (h.no hb _ _ s) ne'
    | some p => exact Int.le_trans ((h.yes p hb).2.2 _ _ s ne') (z p hb)
  · exact Int.le_refl _
theorem take_one {α : Type} {l : List α} {i : Nat} {x z : α} (h : l[i]? = some x) : z ∈ l.take (i + 1) ↔ z ∈ l.take i ∨ z = x := by
  rw [List.take_add_one, h]
  simp
theorem cut_to (xs : List D) (k : Nat) : cutD xs none (some (k : Int)) = xs.take k := by
  unfold cutD
  have e1 : HT.sIx xs.length 0 none = 0 := by unfold HT.sIx; simp
  have e2 : HT.sIx xs.length xs.length (some (k : Int)) = min k xs.length := by unfold HT.sIx; simp; omega
  rw [e1, e2, List.drop_zero, Nat.sub_zero]
  by_cases h : k ≤ xs.length
  · rw [Nat.min_eq_left h]
  · rw [Nat.min_eq_right (by omega), List.take_length, List.take_of_length_le (by omega)]
theorem cut_from (xs : List D) (k : Nat) : cutD xs (some (k : Int)) none = xs.drop k := by
  unfold cutD
  have e1 : HT.sIx xs.length 0 (some (k : Int)) = min k xs.length := by unfold HT.sIx; simp; omega
  have e2 : HT.sIx xs.length xs.length none = xs.length := by unfold HT.sIx; simp
  rw [e1, e2]
  by_cases h : k ≤ xs.length
  · rw [Nat.min_eq_left h, List.take_of_length_le (by rw [List.length_drop]; exact Nat.le_refl _)]
  · rw [Nat.min_eq_right (by omega), Nat.sub_self, List.take_zero, List.drop_eq_nil_of_le (by omega)]
theorem len_widest_of (c : CA) : ∀ ds M Fc, pureP (f_widest_of c) ds M Fc → ds.length = 2 := by
  rintro ds M Fc ⟨_, b, ws, r, rfl, _⟩; rfl
theorem first_ok {c : CA} {b : Bool} {ws : List Win} {w : Nat} {M : List D} {xc : XC} {rho : Rho} {Phi : D → List D → Prop} (h : w < ws.length) (q : Phi (.int (bgn ws w)) M) : c_first_of c xc rho [eBk c b ws, eNat w] M Phi := ⟨.inr (by simp), b, ws, w, rfl, h, q⟩
theorem last_ok {c : CA} {b : Bool} {ws : List Win} {w : Nat} {M : List D} {xc : XC} {rho : Rho} {Phi : D → List D → Prop} (h : w < ws.length) (q : Phi (.int (fin ws w)) M) : c_last_of c xc rho [eBk c b ws, eNat w] M Phi := ⟨.inr (by simp), b, ws, w, rfl, h, q⟩
@[simp] theorem ne_nat (M : List D) (a b : Nat) (Psi : D → Prop) : oNe M (eNat a) (eNat b) Psi = Psi (.bl (!decide (a = b))) := by
  show oNe M (.int (a : Nat)) (.int (b : Nat)) Psi = _
  rw [s_neI, show decide (((a : Nat) : Int) = (b : Nat)) = decide (a = b) from decide_eq_decide.mpr nat_inj]
theorem dw_widest_of (c : CA) : ∀ ds M Fc, pureP (f_widest_of c) ds M Fc → w_widest_of c (xcD M.length Fc) (finD M.length Fc) (startD ["book", "works", "early", "late", "best", "one", "other", "hours", "work"] ds) M := by
  rintro ds M Fc ⟨rfl, b, ws, r, rfl, hr, h2, h4, q⟩
  show w_widest_of c (xcD 0 Fc) (finD 0 Fc) [some (eBk c b ws), some (eRow r), none, none, none, none, none, none, none] []
  simp [w_widest_of]
  refine sortL_nat (bgn ws) (fun w hw N hN => ?_) ?_
  · simp
    exact first_ok (hr.lt w hw) hN
  obtain ⟨e1, e2, et, ee, m1, m2, ne, l1, l2⟩ := two_least (bgn ws) hr.nd h2
  have c2 : ∀ xs : List Nat, cutD (xs.map eNat) none (some 2) = (xs.take 2).map eNat := fun xs => by rw [List.map_take]; exact cut_to _ 2
  generalize (r.mergeSort fun a b => decide (bgn ws a ≤ bgn ws b)) = s1 at ee ⊢
  obtain ⟨E, hE⟩ : ∃ E, s1.take 2 = E := ⟨_, rfl⟩
  simp [c2, hE]
  refine sortL_nat (fun w => -fin ws w) (fun w hw N hN => ?_) ?_
  · simp
    exact last_ok (hr.lt w hw) (by simpa using hN)
  obtain ⟨t1, t2, tt, te, n1, n2, nt, k1, k2⟩ := two_least (fun w => -fin ws w) hr.nd h2
  generalize (r.mergeSort fun a b => decide (-fin ws a ≤ -fin ws b)) = s2 at te ⊢
  obtain ⟨L, hL⟩ : ∃ L, s2.take 2 = L := ⟨_, rfl⟩
  simp [c2, hE, hL]
  have hE' : E = [e1, e2] := by rw [← hE, ee]; rfl
  have hL' : L = [t1, t2] := by rw [← hL, te]; rfl
  have mE : ∀ z, z ∈ E ↔ z = e1 ∨ z = e2 := fun z => by rw [hE']; simp
  have mL : ∀ z, z ∈ L ↔ z = t1 ∨ z = t2 := fun z => by rw [hL']; simp
  intro _
  refine forGo_inv (fun i rho M => ∃ (best : Option (Nat × Nat)) (y z u v : Option D), rho = [some (eBk c b ws), some (eRow r), some (.lst (E.map eNat)), some (.lst (L.map eNat)), some (eWid ws best), y, z, u, v] ∧ M = [] ∧ GoodW ws (fun o t => o ∈ E.take i ∧ t ∈ L) best) (fun _ _ _ _ => trivial) ?_ ?_ ⟨none, none, none, none, none, rfl, rfl, ⟨fun _ o t s => by simp at s, fun p e => by cases e⟩⟩
  · rintro i d rho M N hd ⟨best, y, z, u, v, rfl, rfl, G⟩ hN
    obtain ⟨o, ho, rfl, om⟩ : ∃ o, E[i]? = some o ∧ d = eNat o ∧ o ∈ r := by
      rw [List.getElem?_map] at hd
      cases ho : E[i]? with
      | none => rw [ho] at hd; cases hd
      | some o =>
        rw [ho] at hd
        refine ⟨o, rfl, (Option.some.inj hd).symm, ?_⟩
        have := List.mem_of_getElem? ho
        rw [mE] at this
        rcases this with rfl | rfl <;> assumption
    simp
    intro _
    refine forGo_inv (fun j rho M => ∃ (best : Option (Nat × Nat)) (z u v : Option D), rho = [some (eBk c b ws), some (eRow r), some (.lst (E.map eNat)), some (.lst (L.map eNat)), some (eWid ws best), some (eNat o), z, u, v] ∧ M = [] ∧ GoodW ws (fun o' t => (o' ∈ E.take i ∧ t ∈ L) ∨ (o' = o ∧ t ∈ L.take j)) best) (fun _ _ _ _ => trivial) ?_ ?_
      ⟨best, z, u, v, rfl, rfl, G.mono fun o t => by simp⟩
    · rintro j d rho M N2 hd2 ⟨best, z, u, v, rfl, rfl, G⟩ hN2
      obtain ⟨t, ht, rfl, tm⟩ : ∃ t, L[j]? = some t ∧ d = eNat t ∧ t ∈ r := by
        rw [List.getElem?_map] at hd2
        cases ht : L[j]? with
        | none => rw [ht] at hd2; cases hd2
        | some t =>
          rw [ht] at hd2
          refine ⟨t, rfl, (Option.some.inj hd2).symm, ?_⟩
          have := List.mem_of_getElem? ht
          rw [mL] at this
          rcases this with rfl | rfl <;> assumption
      have up : ∀ (best' : Option (Nat × Nat)), GoodW ws (fun o' t' => ((o' ∈ E.take i ∧ t' ∈ L) ∨ (o' = o ∧ t' ∈ L.take j)) ∨ (o' = o ∧ t' = t)) best' →
          GoodW ws (fun o' t' => (o' ∈ E.take i ∧ t' ∈ L) ∨ (o' = o ∧ t' ∈ L.take (j + 1))) best' := fun best' g => g.mono fun o' t' => by
        rw [take_one ht]
        constructor
        · rintro ((h | ⟨h, h'⟩) | ⟨h, h'⟩)
          · exact .inl h
          · exact .inr ⟨h, .inl h'⟩
          · exact .inr ⟨h, .inr h'⟩
        · rintro (h | ⟨h, h' | h'⟩)
          · exact .inl (.inl h)
          · exact .inl (.inr ⟨h, h'⟩)
          · exact .inr ⟨h, h'⟩
      simp
      refine last_ok (hr.lt t tm) ?_
      simp
      refine first_ok (hr.lt o om) ?_
      simp
      by_cases hot : o = t
      · simp [hot]
        exact hN2 _ _ ⟨best, _, _, _, by rw [hot], rfl, up _ (G.same (.inl hot))⟩
      · simp [hot]
        cases best with
        | none =>
          simp [eWid, oIs]
          exact hN2 _ _ ⟨some (o, t), _, _, _, rfl, rfl, up _ (G.next hot fun p e => by cases e)⟩
        | some p =>
          simp [eWid, oIs]
          by_cases hlt : wv ws p.1 p.2 < fin ws t - bgn ws o
          · simp [hlt]
            exact hN2 _ _ ⟨some (o, t), _, _, _, rfl, rfl, up _ (G.next hot fun p' e => by cases e; exact Int.le_of_lt hlt)⟩
          · simp [hlt]
            exact hN2 _ _ ⟨some p, _, _, _, rfl, rfl, up _ (G.same (.inr ⟨p, rfl, Int.not_lt.mp hlt⟩))⟩
    · rintro rho M ⟨best, z, u, v, rfl, rfl, G⟩
      refine hN _ _ ⟨best, _, _, _, _, rfl, rfl, G.mono fun o' t' => ?_⟩
      rw [take_one ho]
      simp
      constructor
      · rintro (h | ⟨h, h'⟩)
        · exact ⟨.inl h.1, h.2⟩
        · exact ⟨.inr h, h'⟩
      · rintro ⟨h | h, h'⟩
        · exact .inl ⟨h, h'⟩
        · exact .inr ⟨h, h'⟩
  · rintro rho M ⟨best, y, z, u, v, rfl, rfl, G⟩
    rw [show E.take (E.map eNat).length = E by simp] at G
    simp only [mE, mL] at G
    simp
    cases best with
    | none =>
      have z1 := G.no rfl e1 t1 (by simp)
      have z2 := G.no rfl e2 t1 (by simp)
      exact absurd (z1.trans z2.symm) ne
    | some p =>
      obtain ⟨p1, p2, p3⟩ := G.yes p rfl
      have k1' : ∀ z, z ∈ r → fin ws z ≤ fin ws t1 := fun z hz => by have := k1 z hz; omega
      have k2' : ∀ z, z ∈ r → z ≠ t1 → fin ws z ≤ fin ws t2 := fun z hz h => by have := k2 z hz h; omega
      refine ret0 (by simp [eWid]) (q p.1 p.2 ?_ ?_ p1 fun o' t' ho ht hne => ?_)
      · rcases p2.1 with e | e <;> rw [e] <;> assumption
      · rcases p2.2 with e | e <;> rw [e] <;> assumption
      · have v := fun o t h1 h2 => p3 o t h1 h2
        unfold wv at v
        by_cases h : e1 = t1
        · by_cases ht1 : t' = t1
          · have a := v e2 t1 ⟨.inr rfl, .inl rfl⟩ (fun z => ne (h.trans z.symm))
            have b' := l2 o' ho (fun z => hne (by rw [z, ht1, h]))
            have c' := k1' t' ht
            omega
          · have a := v e1 t2 ⟨.inl rfl, .inr rfl⟩ (fun z => nt (h.symm.trans z))
            have b' := l1 o' ho
            have c' := k2' t' ht ht1
            omega
        · have a := v e1 t1 ⟨.inl rfl, .inl rfl⟩ h
          have b' := l1 o' ho
          have c' := k1' t' ht
          omega
end K72

namespace K72
open PySem L2 DL
theorem rng_item {m i : Nat} {d : D} (h : (rngD 0 m)[i]? = some d) : i < m ∧ d = .int (i : Nat) := by
  rw [rng0, List.getElem?_map] at h
  by_cases hi : i < m
  · rw [List.getElem?_range hi] at h
    exact ⟨hi, (Option.some.inj h).symm⟩
  · rw [List.getElem?_eq_none (by rw [List.length_range]; omega)] at h
    cases h
theorem rng_item1 {lo : Int} {m i : Nat} {d : D} (h : (rngD lo m)[i]? = some d) : i < m ∧ d = .int (lo + (i : Nat)) := by
  unfold rngD at h
  rw [List.getElem?_map] at h
  by_cases hi : i < m
  · rw [List.getElem?_range hi] at h
    exact ⟨hi, (Option.some.inj h).symm⟩
  · rw [List.getElem?_eq_none (by rw [List.length_range]; omega)] at h
    cases h
theorem mem_drop {r : List Nat} {i z : Nat} : z ∈ r.drop i ↔ ∃ u, i ≤ u ∧ r[u]? = some z := by
  constructor
  · intro h
    obtain ⟨k, hk, e⟩ := List.getElem_of_mem h
    refine ⟨i + k, Nat.le_add_right _ _, ?_⟩
    rw [← List.getElem?_drop, List.getElem?_eq_getElem hk, e]
  · rintro ⟨u, h1, h2⟩
    refine List.mem_of_getElem? (i := u - i) ?_
    rw [List.getElem?_drop, show i + (u - i) = u by omega]
    exact h2
theorem quad_last {r : List Nat} {i a z f l : Nat} (nd : r.Nodup) (hi : i + 1 < r.length) (ha : r[i]? = some a) (hz : r.getLast? = some z) : Quad r a z f l ↔ f ∈ r.drop i ∧ l ∈ r.drop i ∧ f ≠ l := by
  have hz' : r[r.length - 1]? = some z := by rw [← List.getLast?_eq_getElem?]; exact hz
  rw [quad_iff nd, mem_drop, mem_drop]
  constructor
  · rintro ⟨x, y, u, v, h1, h2, h3, h4, h5, h6, h7, h8, h9, h10⟩
    have := nd_ix nd h1 ha
    exact ⟨⟨u, by omega, h3⟩, ⟨v, by omega, h4⟩, fun e => h10 (nd_ix nd h3 (by rw [e]; exact h4))⟩
  · rintro ⟨⟨u, h1, h2⟩, ⟨v, h3, h4⟩, ne⟩
    have := (List.getElem?_eq_some_iff.mp h2).1
    have := (List.getElem?_eq_some_iff.mp h4).1
    exact ⟨i, r.length - 1, u, v, ha, hz', h2, h4, by omega, h1, by omega, h3, by omega, fun e => ne (by rw [e] at h2; rw [h2] at h4; exact Option.some.inj h4)⟩
theorem Shows.keep {ws P P' h works} (s : Shows ws P h works) (e : ∀ i j f l, P i j f l → P' i j f l) (n : ∀ i j f l, P' i j f l → P i j f l ∨ qv ws i j f l ≤ h) : Shows ws P' h works :=
  ⟨s.h0, fun i j f l p => (n i j f l p).elim (s.all i j f l) id, s.ex.imp id fun ⟨a, i, j, f, l, b, c, d⟩ => ⟨a, i, j, f, l, b, e _ _ _ _ c, d⟩⟩
theorem Shows.next {ws P P' h works} {i j f l : Nat} (s : Shows ws P h works) (p : P' i j f l) (hlt : h < qv ws i j f l) (n : ∀ i' j' f' l', P' i' j' f' l' → P i' j' f' l' ∨ qv ws i' j' f' l' ≤ qv ws i j f l) : Shows ws P' (qv ws i j f l) [i, j, f, l] :=
  ⟨by have := s.h0; omega, fun i' j' f' l' p' => (n _ _ _ _ p').elim (fun z => by have := s.all _ _ _ _ z; omega) id, .inr ⟨by have := s.h0; omega, i, j, f, l, rfl, p, rfl⟩⟩
theorem len_worst_behind (c : CA) : ∀ ds M Fc, pureP (f_worst_behind c) ds M Fc → ds.length = 2 := by
  rintro ds M Fc ⟨_, b, ws, r, rfl, _⟩; rfl
theorem nil_eRow : D.tup [] = eRow [] := rfl
@[simp] theorem tl_eRow (r : List Nat) (n : Int) : cutD (r.map eNat) none (some n) = (cutD (r.map eNat) none (some n)) := rfl
theorem dw_worst_behind (c : CA) : ∀ ds M Fc, pureP (f_worst_behind c) ds M Fc → w_worst_behind c (xcD M.length Fc) (finD M.length Fc) (startD ["book", "row", "best", "last", "place", "hours", "one", "other"] ds) M := by
  rintro ds M Fc ⟨rfl, b, ws, r, rfl, hr, h1, h4, q⟩
  show w_worst_behind c (xcD 0 Fc) (finD 0 Fc) [some (eBk c b ws), some (eRow r), none, none, none, none, none, none] []
  obtain ⟨z, hz⟩ : ∃ z, r.getLast? = some z := by
    cases h : r.getLast? with
    | none => rw [List.getLast?_eq_none_iff] at h; subst h; simp at h1
    | some z => exact ⟨z, rfl⟩
  have zm : z ∈ r := List.mem_of_getLast? hz
  simp [w_worst_behind, hz]
  intro _
  refine ⟨by omega, ?_⟩
  refine forGo_inv (fun i rho M => ∃ (h : Int) (works : List Nat) (y u v w : Option D), rho = [some (eBk c b ws), some (eRow r), some (.tup [.int h, eRow works]), some (eNat z), y, u, v, w] ∧ M = [] ∧ Shows ws (fun i' j f l => LastQ r i' j f l ∧ ∃ x, x < i ∧ r[x]? = some i') h works) (fun _ _ _ _ => trivial) ?_ ?_
    ⟨0, [], none, none, none, none, rfl, rfl, ⟨Int.le_refl _, fun i' j f l ⟨_, x, h, _⟩ => by omega, .inl ⟨rfl, rfl⟩⟩⟩
  · rintro i d rho M N hd ⟨h, works, y, u, v, w, rfl, rfl, S⟩ hN
    obtain ⟨hi, rfl⟩ := rng_item hd
    have hil : i < r.length := by omega
    obtain ⟨a, ha⟩ : ∃ a, r[i]? = some a := ⟨_, List.getElem?_eq_getElem hil⟩
    have am : a ∈ r := List.mem_of_getElem? ha
    have cf : cutD (r.map eNat) (some (i : Int)) none = (r.drop i).map eNat := by rw [cut_from, List.map_drop]
    simp [cf]
    refine ⟨.inr (by have := c_eNats 0 (r.drop i); rw [List.map_drop] at this; simp [this]), b, ws, r.drop i, by rw [eRow, List.map_drop], hr.sub (List.drop_sublist _ _), by rw [List.length_drop]; omega, by rw [List.length_drop]; omega, fun o t om tm ne best => ?_⟩
    simp [at_nat, ha]
    refine first_ok (hr.lt a am) ?_
    simp
    refine last_ok (hr.lt z zm) ?_
    have ev : fin ws t - bgn ws o + (bgn ws a - fin ws z) = qv ws a z o t := by unfold qv; omega
    simp [ev]
    have bq : ∀ f l, Quad r a z f l → qv ws a z f l ≤ qv ws a z o t := fun f l qd => by
      obtain ⟨q1, q2, q3⟩ := (quad_last hr.nd (by omega) ha hz).mp qd
      have := best f l q1 q2 q3
      unfold qv
      omega
    have split : ∀ i' j f l, (LastQ r i' j f l ∧ ∃ x, x < i + 1 ∧ r[x]? = some i') → (LastQ r i' j f l ∧ ∃ x, x < i ∧ r[x]? = some i') ∨ qv ws i' j f l ≤ qv ws a z o t := by
      rintro i' j f l ⟨lq, x, hx, ex⟩
      by_cases hxi : x = i
      · right
        subst hxi
        rw [ha] at ex
        cases ex
        have := lq.2
        rw [hz] at this
        cases this
        exact bq f l lq.1
      · exact .inl ⟨lq, x, by omega, ex⟩
    by_cases hlt : h < qv ws a z o t
    · simp [hlt, at_nat, ha]
      exact hN _ _ ⟨qv ws a z o t, [a, z, o, t], _, _, _, _, rfl, rfl, S.next ⟨⟨(quad_last hr.nd (by omega) ha hz).mpr ⟨om, tm, ne⟩, hz⟩, i, by omega, ha⟩ hlt split⟩
    · simp [hlt]
      exact hN _ _ ⟨h, works, _, _, _, _, rfl, rfl, S.keep (fun _ _ _ _ ⟨p, x, hx, ex⟩ => ⟨p, x, by omega, ex⟩) fun i' j f l p => (split i' j f l p).imp id fun z => by omega⟩
  · rintro rho M ⟨h, works, y, u, v, w, rfl, rfl, S⟩
    simp
    refine ret0 (by simp) (q h works (S.keep (fun _ _ _ _ p => p.1) fun i' j f l lq => .inl ⟨lq, ?_⟩))
    obtain ⟨x, y, hxy, hx, hy⟩ := bef_iff.mp lq.1.ij
    have := (List.getElem?_eq_some_iff.mp hy).1
    exact ⟨x, by simp [rng_len]; omega, hx⟩
end K72
namespace K72
open PySem L2 DL
theorem len_regret_in (c : CA) : ∀ ds M Fc, pureP (f_regret_in c) ds M Fc → ds.length = 2 := by
  rintro ds M Fc ⟨_, b, ws, r, rfl, _⟩; rfl
theorem quad_take {r : List Nat} (nd : r.Nodup) {n i j f l : Nat} : Quad (r.take n) i j f l ↔ Quad r i j f l ∧ ∃ y, y < n ∧ r[y]? = some j := by
  have ndt : (r.take n).Nodup := nd.sublist (List.take_sublist _ _)
  have gt : ∀ {k z}, (r.take n)[k]? = some z ↔ k < n ∧ r[k]? = some z := fun {k z} => by
    rw [List.getElem?_take]
    by_cases h : k < n
    · simp [h]
    · simp [h]
  rw [quad_iff ndt, quad_iff nd]
  constructor
  · rintro ⟨x, y, u, v, h1, h2, h3, h4, h5⟩
    exact ⟨⟨x, y, u, v, (gt.mp h1).2, (gt.mp h2).2, (gt.mp h3).2, (gt.mp h4).2, h5⟩, y, gt.mp h2⟩
  · rintro ⟨⟨x, y, u, v, h1, h2, h3, h4, h5⟩, y', hy, e⟩
    have := nd_ix nd h2 e
    exact ⟨x, y, u, v, gt.mpr ⟨by omega, h1⟩, gt.mpr ⟨by omega, h2⟩, gt.mpr ⟨by omega, h3⟩, gt.mpr ⟨by omega, h4⟩, h5⟩
theorem last_take {r : List Nat} {n z : Nat} (h : r[n]? = some z) : (r.take (n + 1)).getLast? = some z := by
  rw [List.take_add_one, h]; simp
theorem dw_regret_in (c : CA) : ∀ ds M Fc, pureP (f_regret_in c) ds M Fc → w_regret_in c (xcD M.length Fc) (finD M.length Fc) (startD ["book", "order", "best", "place", "found"] ds) M := by
  rintro ds M Fc ⟨rfl, b, ws, r, rfl, hr, h4, q⟩
  show w_regret_in c (xcD 0 Fc) (finD 0 Fc) [some (eBk c b ws), some (eRow r), none, none, none] []
  simp [w_regret_in]
  intro _
  refine ⟨by omega, ?_⟩
  refine forGo_inv (fun i rho M => ∃ (h : Int) (works : List Nat) (y u : Option D), rho = [some (eBk c b ws), some (eRow r), some (.tup [.int h, eRow works]), y, u] ∧ M = [] ∧ Shows ws (fun i' j f l => Quad r i' j f l ∧ ∃ y, y < i + 1 ∧ r[y]? = some j) h works) (fun _ _ _ _ => trivial) ?_ ?_
    ⟨0, [], none, none, rfl, rfl, ⟨Int.le_refl _, fun i' j f l ⟨p, y, h, e⟩ => ?_, .inl ⟨rfl, rfl⟩⟩⟩
  · rintro i d rho M N hd ⟨h, works, y, u, rfl, rfl, S⟩ hN
    obtain ⟨hi, rfl⟩ := rng_item1 hd
    have hil : i + 1 < r.length := by omega
    obtain ⟨z, hz⟩ : ∃ z, r[i + 1]? = some z := ⟨_, List.getElem?_eq_getElem hil⟩
    have cf : cutD (r.map eNat) none (some (1 + (i : Int) + 1)) = (r.take (i + 2)).map eNat := by
      rw [show (1 + (i : Int) + 1) = ((i + 2 : Nat) : Int) by omega, cut_to, List.map_take]
    simp [cf]
    refine ⟨.inr (by have := c_eNats 0 (r.take (i + 2)); rw [List.map_take] at this; simp [this]), b, ws, r.take (i + 2), by rw [eRow, List.map_take], hr.sub (List.take_sublist _ _), by rw [List.length_take]; omega, by rw [List.length_take]; omega, fun h' works' S' => ?_⟩
    have lq : ∀ i' j f l, LastQ (r.take (i + 2)) i' j f l ↔ Quad r i' j f l ∧ j = z := fun i' j f l => by
      unfold LastQ
      rw [quad_take hr.nd, last_take hz]
      constructor
      · rintro ⟨⟨a, _⟩, e⟩
        exact ⟨a, (Option.some.inj e).symm⟩
      · rintro ⟨a, rfl⟩
        exact ⟨⟨a, i + 1, by omega, hz⟩, rfl⟩
    have split : ∀ i' j f l, (Quad r i' j f l ∧ ∃ y, y < i + 1 + 1 ∧ r[y]? = some j) → (Quad r i' j f l ∧ ∃ y, y < i + 1 ∧ r[y]? = some j) ∨ qv ws i' j f l ≤ h' := by
      rintro i' j f l ⟨p, y, hy, e⟩
      by_cases hyi : y = i + 1
      · subst hyi
        rw [hz] at e
        exact .inr (S'.all _ _ _ _ ((lq _ _ _ _).mpr ⟨p, (Option.some.inj e).symm⟩))
      · exact .inl ⟨p, y, by omega, e⟩
    simp
    by_cases hlt : h < h'
    · simp [hlt]
      refine hN _ _ ⟨h', works', _, _, rfl, rfl, ⟨S'.h0, fun i' j f l p => (split _ _ _ _ p).elim (fun z => by have := S.all _ _ _ _ z; omega) id, ?_⟩⟩
      rcases S'.ex with ⟨e, _⟩ | ⟨e, i', j, f, l, e1, e2, e3⟩
      · have := S.h0; omega
      · have := (lq _ _ _ _).mp e2
        exact .inr ⟨e, i', j, f, l, e1, ⟨this.1, i + 1, by omega, by rw [this.2]; exact hz⟩, e3⟩
    · simp [hlt]
      exact hN _ _ ⟨h, works, _, _, rfl, rfl, S.keep (fun _ _ _ _ ⟨p, y, hy, e⟩ => ⟨p, y, by omega, e⟩) fun i' j f l p => (split _ _ _ _ p).imp id fun z => by omega⟩
  · rintro rho M ⟨h, works, y, u, rfl, rfl, S⟩
    simp
    refine ret0 (by simp) (q h works (S.keep (fun _ _ _ _ p => p.1) fun i' j f l p => .inl ⟨p, ?_⟩))
    obtain ⟨x, y, hxy, hx, hy⟩ := bef_iff.mp p.ij
    have := (List.getElem?_eq_some_iff.mp hy).1
    exact ⟨y, by simp [rng_len]; omega, hy⟩
  · have y0 : y = 0 := by omega
    subst y0
    obtain ⟨x, y2, hxy, hx, hy⟩ := bef_iff.mp p.ij
    have := nd_ix hr.nd e hy
    omega
theorem len_regret (c : CA) : ∀ ds M Fc, pureP (f_regret c) ds M Fc → ds.length = 2 := by
  rintro ds M Fc ⟨_, b, ws, r, rfl, _⟩; rfl
theorem dw_regret (c : CA) : ∀ ds M Fc, pureP (f_regret c) ds M Fc → w_regret c (xcD M.length Fc) (finD M.length Fc) (startD ["book", "order"] ds) M := by
  rintro ds M Fc ⟨rfl, b, ws, r, rfl, hr, h4, q⟩
  show w_regret c (xcD 0 Fc) (finD 0 Fc) [some (eBk c b ws), some (eRow r)] []
  simp [w_regret]
  refine ⟨.inl rfl, b, ws, r, rfl, hr, h4, ?_⟩
  simp
  refine ⟨.inl rfl, b, ws, r, rfl, hr.row, h4, fun h works S => ?_⟩
  simp
  exact ret0 (by simp) (q h S.reg)
end K72

namespace K72
open PySem L2 DL
theorem zip_tail (g : List Nat) : zipD (g.map eNat) (cutD (g.map eNat) (some 1) none) = (g.zip (g.drop 1)).map fun p => D.tup [eNat p.1, eNat p.2] := by
  have e : cutD (g.map eNat) (some 1) none = (g.drop 1).map eNat := by rw [List.map_drop]; exact cut_from _ 1
  rw [e]
  unfold zipD
  rw [List.zipWith_map, List.zip_eq_zipWith, List.map_zipWith]
theorem asc_zip {g : List Nat} (h : g.Pairwise (· < ·)) {p : Nat × Nat} (hp : p ∈ g.zip (g.drop 1)) : p.1 < p.2 := by
  induction g with
  | nil => simp at hp
  | cons a r ih =>
    cases r with
    | nil => simp at hp
    | cons b r =>
      rw [List.pairwise_cons] at h
      simp only [List.drop_succ_cons, List.drop_zero, List.zip_cons_cons, List.mem_cons] at hp
      rcases hp with rfl | hp
      · exact h.1 b (by simp)
      · exact ih h.2 (by simpa using hp)
theorem len_are_ascending (c : CA) : ∀ ds M Fc, pureP (f_are_ascending c) ds M Fc → ds.length = 1 := by
  rintro ds M Fc ⟨_, t, g, rfl, _⟩; rfl
theorem dw_are_ascending (c : CA) : ∀ ds M Fc, pureP (f_are_ascending c) ds M Fc → w_are_ascending c (xcD M.length Fc) (finD M.length Fc) (startD ["numbers", "one", "other"] ds) M := by
  rintro ds M Fc ⟨rfl, t, g, rfl, ha, hl, q⟩
  show w_are_ascending c (xcD 0 Fc) (finD 0 Fc) [some (eT t g), none, none] []
  simp [w_are_ascending]
  intro _ _
  rw [zip_tail]
  refine ⟨by rw [sizeLine_eq]; simp; omega, ?_⟩
  refine lcGo_map (fun _ => .bl true) (by first | trivial | simp) (g.zip (g.drop 1)) (fun p hp N hN => ?_) ?_
  · have := asc_zip ha hp
    simp [eNat, this]
    simpa using hN
  · have e : ((g.zip g.tail).all fun _ => true) = true := List.all_eq_true.mpr fun _ _ => rfl
    simp [e]
    exact ret0 rfl q
theorem IsGrp.row {n g} (h : IsGrp n g) : IsRow n g := ⟨h.asc.imp fun h => Nat.ne_of_lt h, h.lt⟩
theorem len_is_group (c : CA) : ∀ ds M Fc, pureP (f_is_group c) ds M Fc → ds.length = 2 := by
  rintro ds M Fc ⟨_, b, ws, t, w, rfl, _⟩; rfl
theorem dw_is_group (c : CA) : ∀ ds M Fc, pureP (f_is_group c) ds M Fc → w_is_group c (xcD M.length Fc) (finD M.length Fc) (startD ["book", "thing"] ds) M := by
  rintro ds M Fc ⟨rfl, b, ws, t, r, rfl, hr, hl, q⟩
  show w_is_group c (xcD 0 Fc) (finD 0 Fc) [some (eBk c b ws), some (eT t r)] []
  simp [w_is_group]
  refine ⟨.inl rfl, b, ws, t, r, rfl, hr.row, hl, ?_⟩
  simp
  refine ⟨.inl rfl, t, r, rfl, hr.asc, hl, ?_⟩
  exact ret0 rfl q
theorem len_check_group (c : CA) : ∀ ds M Fc, pureP (f_check_group c) ds M Fc → ds.length = 2 := by
  rintro ds M Fc ⟨_, b, ws, t, w, rfl, _⟩; rfl
theorem dw_check_group (c : CA) : ∀ ds M Fc, pureP (f_check_group c) ds M Fc → w_check_group c (xcD M.length Fc) (finD M.length Fc) (startD ["book", "thing"] ds) M := by
  rintro ds M Fc ⟨rfl, b, ws, t, r, rfl, hr, h0, hl, q⟩
  show w_check_group c (xcD 0 Fc) (finD 0 Fc) [some (eBk c b ws), some (eT t r)] []
  have hp : 0 < r.length := List.length_pos_iff.mpr h0
  simp [w_check_group]
  refine ⟨.inl rfl, b, ws, t, r, rfl, hr, hl, ?_⟩
  simp [h0]
  intro _
  exact ret0 rfl q
theorem len_part (c : CA) : ∀ ds M Fc, pureP (f_part c) ds M Fc → ds.length = 2 := by
  rintro ds M Fc ⟨_, b, ws, t, w, rfl, _⟩; rfl
theorem dw_part (c : CA) : ∀ ds M Fc, pureP (f_part c) ds M Fc → w_part c (xcD M.length Fc) (finD M.length Fc) (startD ["book", "group", "work"] ds) M := by
  rintro ds M Fc ⟨rfl, b, ws, t, r, rfl, hr, h0, hl, q⟩
  show w_part c (xcD 0 Fc) (finD 0 Fc) [some (eBk c b ws), some (eT t r), none] []
  simp [w_part]
  refine ⟨.inl rfl, b, ws, t, r, rfl, hr, h0, hl, ?_⟩
  simp
  intro _
  refine ⟨sz40 hl, lcGo_map (fun w => pD (ws.getD w (0, 0))) (by first | trivial | simp) r (fun w hw N hN => ?_) ?_⟩
  · have := hr.lt w hw
    simp [eBk, eWs, eNat, at_nat, this]
    simpa [this] using hN
  · simp
    refine ⟨.inl rfl, sub ws r, by simp [sub, Function.comp_def], ?_⟩
    exact ret0 (by simp) q
theorem len_shifted (c : CA) : ∀ ds M Fc, pureP (f_shifted c) ds M Fc → ds.length = 2 := by
  rintro ds M Fc ⟨_, b, ws, t, rfl, _⟩; rfl
theorem dw_shifted (c : CA) : ∀ ds M Fc, pureP (f_shifted c) ds M Fc → w_shifted c (xcD M.length Fc) (finD M.length Fc) (startD ["book", "by", "first", "last"] ds) M := by
  rintro ds M Fc ⟨rfl, b, ws, i, rfl, hb, hi, q⟩
  show w_shifted c (xcD 0 Fc) (finD 0 Fc) [some (eBk c b ws), some (.int i), none, none] []
  have hz : ws.length ≤ sizeLine := sz40 (Nat.le_trans hb.h1 (by decide))
  simp [w_shifted, eBk, eWs]
  refine ⟨.inl rfl, _, rfl, trivial, ?_⟩
  simp [isInt]
  intro _
  refine ⟨hz, lcGo_map (fun w => .bl false) (by first | trivial | simp) ws (fun w hw N hN => ?_) ?_⟩
  · have h1 := (hb.all w hw).h0
    simp [pD, show ¬ (w.1 + i < 0) by omega]
    simpa using hN
  · simp
    intro _
    refine ⟨hz, lcGo_map (fun w => pD (w.1 + i, w.2 + i)) (by first | trivial | simp) ws (fun w hw N hN => ?_) ?_⟩
    · simpa [pD] using hN
    · simp
      refine ⟨.inl rfl, shf i ws, by simp [shf, Function.comp_def], ?_⟩
      exact ret0 (by simp) q
end K72

namespace K72
open PySem L2 DL
/-! ### the pool -/
mutual
theorem lt_mono {m : Nat} : ∀ {d : D}, d.lt 0 = true → d.lt m = true
  | .non, _ => rfl
  | .bl _, _ => rfl
  | .int _, _ => rfl
  | .str _, _ => rfl
  | .adr _, _ => rfl
  | .ty _, _ => rfl
  | .loc k, h => by rw [D.lt] at h; simp at h
  | .tup xs, h => by rw [D.lt] at h ⊢; exact ltL_mono h
  | .lst xs, h => by rw [D.lt] at h ⊢; exact ltL_mono h
  | .tpx xs, h => by rw [D.lt] at h ⊢; exact ltL_mono h
  | .ins _ fs, h => by rw [D.lt] at h ⊢; exact ltF_mono h
  | .dct kvs, h => by rw [D.lt] at h ⊢; exact ltP_mono h
theorem ltL_mono {m : Nat} : ∀ {d : List D}, ltL 0 d = true → ltL m d = true
  | [], _ => by rw [ltL]
  | d :: r, h => by rw [ltL, Bool.and_eq_true] at h ⊢; exact ⟨lt_mono h.1, ltL_mono h.2⟩
theorem ltF_mono {m : Nat} : ∀ {d : List (Str × D)}, ltF 0 d = true → ltF m d = true
  | [], _ => by rw [ltF]
  | (_, d) :: r, h => by rw [ltF, Bool.and_eq_true] at h ⊢; exact ⟨lt_mono h.1, ltF_mono h.2⟩
theorem ltP_mono {m : Nat} : ∀ {d : List (D × D)}, DL.ltP 0 d = true → DL.ltP m d = true
  | [], _ => by rw [DL.ltP]
  | (_, d) :: r, h => by rw [DL.ltP, Bool.and_eq_true, Bool.and_eq_true] at h ⊢; exact ⟨⟨lt_mono h.1.1, lt_mono h.1.2⟩, ltP_mono h.2⟩
end
theorem mulR {i j : Int} (h : -(2 ^ 64) < j ∧ j < 2 ^ 64) : CMul i j := .inr h
theorem mulL {i j : Int} (h : -(2 ^ 64) < i ∧ i < 2 ^ 64) : CMul i j := .inl h
theorem fm_lo {i j : Int} (h : 0 < j) : 0 ≤ i.fmod j := Int.fmod_nonneg_of_pos i h
theorem fm_hi {i j : Int} (h : 0 < j) : i.fmod j < j := Int.fmod_lt_of_pos i h
theorem pl_cl {u v : D} (h : IsPl u v) : u.lt 0 = true ∧ v.lt 2 = true := by
  obtain ⟨⟨ns, rfl⟩, a, b, rfl⟩ := h
  exact ⟨by simp [eCells], by simp [ePool]⟩
theorem pl_ret {Fc : FinC} {d u v : D} {E : List D} (h : IsPl u v) (hd : d.lt 0 = true) (q : Fc.rt d [u, v]) : RetD 2 Fc d (u :: v :: E) := by
  obtain ⟨⟨ns, rfl⟩, a, b, rfl⟩ := h
  have lt : d.lt 2 = true := lt_mono hd
  exact retT (by simp) (by simp [eCells, ePool]) lt (by simpa using q)
theorem call_pl {n : Nat} {P : List D → (D → Prop) → Prop} {xs E : List D} {u v : D} {xc : XC} {rho : Rho} {Phi : D → List D → Prop} (hp : IsPl u v) (hl : xs.length = n) (hx : ltL 0 xs = true)
    (h : P xs fun d => d.lt 0 = true → ∀ u' v', IsPl u' v' → Phi d (u' :: v' :: E)) : callM (draws n P) xc rho (.loc 1 :: xs) (u :: v :: E) Phi := by
  obtain ⟨⟨ns, rfl⟩, a, b, rfl⟩ := hp
  have r1 : renL (fwd [0, 1]) xs = xs := renL_id hx
  refine callM_of (P := draws n P) [0, 1] (by simp) (by simp) (by simp [inKs, alL_of_lt hx]) (fun k hk => ?_) ⟨eCells ns, ePool a b, xs, ?_, ⟨⟨ns, rfl⟩, a, b, rfl⟩, ?_, hl, hx, ?_⟩
  · simp at hk
    rcases hk with rfl | rfl
    · simp [eCells]
    · simp [ePool, inKs]
  · simp [r1, fw_s]
  · simp [eCells, ePool]
  · have e : (fun d : D => d.lt 0 = true → ∀ u' v', IsPl u' v' → Phi d (u' :: v' :: E)) = fun d : D => d.lt 0 = true → ∀ u' v', IsPl u' v' → Phi (d.ren (bck [0, 1] (eCells ns :: ePool a b :: E).length)) (mergeM (eCells ns :: ePool a b :: E) [0, 1] [u', v']) := by
      funext d
      refine propext (forall_congr' fun hd => forall_congr' fun u' => forall_congr' fun v' => forall_congr' fun hp => ?_)
      obtain ⟨⟨ns', rfl⟩, a', b', rfl⟩ := hp
      rw [ren_id hd]
      simp [eCells, ePool, bck]
    rw [e] at h
    exact h
theorem call_draw {c : CA} {n : Int} {u v : D} {E : List D} {xc : XC} {rho : Rho} {Phi : D → List D → Prop} (hp : IsPl u v) (h0 : 0 < n) (h1 : n < 1073741824) (q : ∀ (r : Int) u' v', IsPl u' v' → 0 ≤ r → r < n → Phi (.int r) (u' :: v' :: E)) : c_L_law_draw c xc rho [.loc 1, .int n] (u :: v :: E) Phi :=
  call_pl hp rfl rfl ⟨n, rfl, h0, h1, fun r r0 r1 _ u' v' hp' => q r u' v' hp' r0 r1⟩
theorem len_L_law_pool (c : CA) : ∀ ds M Fc, p_L_law_pool c ds M Fc → ds.length = 1 := by
  rintro ds M Fc ⟨ns, rfl, _⟩; rfl
theorem cut_ints {ns : List Int} {lo hi : Option Int} : ∃ ms : List Int, cutD (ns.map D.int) lo hi = ms.map D.int := ⟨(ns.drop (HT.sIx (ns.map D.int).length 0 lo)).take (HT.sIx (ns.map D.int).length (ns.map D.int).length hi - HT.sIx (ns.map D.int).length 0 lo), by unfold cutD; rw [List.map_take, List.map_drop]⟩
theorem dw_L_law_pool (c : CA) : ∀ ds M Fc, p_L_law_pool c ds M Fc → w_L_law_pool c (xcD M.length Fc) (finD M.length Fc) (startD ["_law_script", "_law_seed", "_law_cell"] ds) M := by
  rintro ds M Fc ⟨ns, rfl, h63, rfl, q⟩
  show w_L_law_pool c (xcD 0 Fc) (finD 0 Fc) [some (.lst (ns.map D.int)), none, none] []
  obtain ⟨m1, e1⟩ := cut_ints (ns := ns) (lo := none) (hi := some 1)
  obtain ⟨m2, e2⟩ := cut_ints (ns := ns) (lo := none) (hi := some 63)
  simp [w_L_law_pool, e1, e2]
  rw [s_lstI (ns := m1) _ _ _ rfl]
  intro _ _
  have ef : ∀ l : List Int, (l.filterMap fun x => if 1000000000000000000 ≤ (if x < 0 then -x else x) then some (D.int (if x < 0 then -x else x)) else none) = (l.filterMap fun x => if 1000000000000000000 ≤ (if x < 0 then -x else x) then some (if x < 0 then -x else x) else none).map D.int := fun l => by
    rw [List.map_filterMap]
    congr 1
    funext x
    by_cases h : 1000000000000000000 ≤ (if x < 0 then -x else x) <;> simp [h]
  refine forGo_inv (fun i rho M => ∃ (s : Int) (y : Option D), rho = [some (.lst (ns.map D.int)), some (.int s), y] ∧ M = []) (fun _ _ _ _ => trivial) ?_ ?_ ⟨_, none, rfl, rfl⟩
  · rintro i d rho M N hd ⟨s, y, rfl, rfl⟩ hN
    rw [List.getElem?_map] at hd
    cases hx : m2[i]? with
    | none => rw [hx] at hd; cases hd
    | some x =>
      rw [hx] at hd
      cases hd
      simp
      exact ⟨mulR (by decide), hN _ _ ⟨_, _, rfl, rfl⟩⟩
  · rintro rho M ⟨s, y, rfl, rfl⟩
    have p18 : CPow 10 18 := by unfold CPow; decide
    simp [e2]
    intro hz
    refine ⟨hz, lcGo_fm (fun x => if 1000000000000000000 ≤ (if x < 0 then -x else x) then some (.int (if x < 0 then -x else x)) else none) (by simp) m2 (fun x hx N acc hN => ?_) [] ?_⟩
    · simp [p18]
      by_cases h : 1000000000000000000 ≤ (if x < 0 then -x else x)
      · simp [h] at hN ⊢
        exact hN
      · simp [h] at hN ⊢
        exact hN
    · rw [ef]
      generalize (m2.filterMap fun x => if 1000000000000000000 ≤ (if x < 0 then -x else x) then some (if x < 0 then -x else x) else none) = cs
      simp
      exact retM (by simp) (by simp) (by simp) (q _ _ ⟨⟨cs, rfl⟩, _, _, rfl⟩)
/-! ### a draw -/
theorem len_L_law_draw (c : CA) : ∀ ds M Fc, p_L_law_draw c ds M Fc → ds.length = 2 := by
  rintro ds M Fc ⟨u, v, xs, rfl, _, _, h, _⟩
  simp [h]
theorem dw_L_law_draw (c : CA) : ∀ ds M Fc, p_L_law_draw c ds M Fc → w_L_law_draw c (xcD M.length Fc) (finD M.length Fc) (startD ["_law_pool_here", "_law_many", "_law_cells", "_law_mixed", "_law_digit"] ds) M := by
  rintro ds M Fc ⟨u, v, xs, rfl, hp, rfl, _, _, n, rfl, h0, h1, q⟩
  obtain ⟨⟨ns, rfl⟩, a, b, rfl⟩ := hp
  show w_L_law_draw c (xcD 2 Fc) (finD 2 Fc) [some (.loc 1), some (.int n), none, none, none] [eCells ns, ePool a b]
  have hd : ∀ a, CDivN a n := fun a => ⟨by omega, by omega⟩
  have hn : n ≠ 0 := by omega
  have big : ∀ i : Int, 0 ≤ i → i < 2147483647 → -(2 ^ 64) < i ∧ i < 2 ^ 64 := fun i h1 h2 => by omega
  simp [w_L_law_draw, ePool]
  intro _
  have fin : ∀ (cs : List Int) (a b r : Int) E, 0 ≤ r → r < n → RetD 2 Fc (.int r) (eCells cs :: ePool a b :: E) := fun cs a b r E h2 h3 => pl_ret ⟨⟨cs, rfl⟩, a, b, rfl⟩ rfl (q r h2 h3 rfl _ _ ⟨⟨cs, rfl⟩, a, b, rfl⟩)
  cases ns with
  | cons x t =>
    have e0 : seqIndex? 0 (t.length + 1) = some 0 := by simp [seqIndex?]
    have e1 : ixN (t.length + 1) 0 = some 0 := by unfold ixN; simp
    simp [eCells, hn, hd, e1]
    split
    · rw [e0]
      simp
      exact fin t a (b + 1) _ [] (fm_lo h0) (fm_hi h0)
    · exact fin (x.fdiv n :: t) a (b + 1) _ [] (fm_lo h0) (fm_hi h0)
  | nil =>
    simp [eCells, hn]
    refine ⟨mulL (by decide), mulR (by decide), ?_⟩
    generalize hx : Int.fmod ((a + 7919 * (b + 1)) * 48271) 2147483647 = x
    have x0 : 0 ≤ x := by rw [← hx]; exact fm_lo (by decide)
    have x1 : x < 2147483647 := by rw [← hx]; exact fm_hi (by decide)
    refine ⟨by unfold CDivN; decide, mulL (big _ x0 x1), ?_⟩
    generalize hy : Int.fmod (x * (x.fdiv 1009 + 69621)) 2147483647 = y
    have y0 : 0 ≤ y := by rw [← hy]; exact fm_lo (by decide)
    have y1 : y < 2147483647 := by rw [← hy]; exact fm_hi (by decide)
    refine ⟨by unfold CDivN; decide, mulL (big _ y0 y1), ?_⟩
    refine ⟨by unfold CDivN; decide, ?_⟩
    exact fin [] _ _ _ [] (fm_lo h0) (fm_hi h0)
end K72

namespace K72
open PySem L2 DL
theorem len_L_law_windows (c : CA) : ∀ ds M Fc, p_L_law_windows c ds M Fc → ds.length = 3 := by
  rintro ds M Fc ⟨u, v, xs, rfl, _, _, h, _⟩
  simp [h]
theorem c_pDs (ws : List Win) : ltL 0 (ws.map pD) = true := by
  induction ws with
  | nil => rfl
  | cons w r ih => rw [List.map_cons, ltL, ih]; rfl
theorem dw_L_law_windows (c : CA) : ∀ ds M Fc, p_L_law_windows c ds M Fc → w_L_law_windows c (xcD M.length Fc) (finD M.length Fc) (startD ["_law_pool_here", "_law_many", "_law_top", "_law_kind", "_law_found", "_law_middle", "_law_k", "_law_one", "_law_other"] ds) M := by
  rintro ds M Fc ⟨u, v, xs, rfl, hp, rfl, _, _, n, top, rfl, h0, h1, t0, t1, q⟩
  show w_L_law_windows c (xcD 2 Fc) (finD 2 Fc) [some (.loc 1), some (eNat n), some (.int top), none, none, none, none, none, none] [u, v]
  simp [w_L_law_windows, eNat]
  refine call_draw hp (by omega) (by omega) fun kind u1 v1 hp1 k0 k1 => ?_
  simp
  refine call_draw hp1 (by omega) (by omega) fun md u2 v2 hp2 m0 m1 => ?_
  simp
  refine ⟨by omega, ?_⟩
  refine forGo_inv (fun i rho M => ∃ (u v : D) (ws : List Win) (y1 y2 y3 : Option D), IsPl u v ∧ rho = [some (.loc 1), some (.int (n : Nat)), some (.int top), some (.int kind), some (.loc 2), some (.int (top + md)), y1, y2, y3] ∧ M = [u, v, .lst (ws.map pD)] ∧ ws.length = i ∧ ∀ w, w ∈ ws → WinOk w) (fun _ _ _ _ => trivial) ?_ ?_
    ⟨u2, v2, [], none, none, none, hp2, rfl, rfl, rfl, by simp⟩
  · rintro i d rho M N hd ⟨u, v, ws, y1, y2, y3, hp, rfl, rfl, hl, hw⟩ hN
    obtain ⟨hi, rfl⟩ := rng_item hd
    have hi : i < n := by simpa using hi
    have fin : ∀ (u v : D) (a b : Int), IsPl u v → 0 ≤ a → 0 ≤ b → a ≤ 200000 → b ≤ 200010 → N [some (.loc 1), some (.int (n : Nat)), some (.int top), some (.int kind), some (.loc 2), some (.int (top + md)), some (.int (i : Nat)), some (.int a), some (.int b)] [u, v, .lst (ws.map pD ++ [.tup [.int (imin a b), .int (imax a b)]])] := fun u v a b hp a0 b0 a1 b1 =>
      hN _ _ ⟨u, v, ws ++ [(imin a b, imax a b)], _, _, _, hp, rfl, by simp [pD], by simp; omega, fun w hm => by
        rcases List.mem_append.mp hm with hm | hm
        · exact hw w hm
        · rw [List.mem_singleton.mp hm]
          exact ⟨by rw [imin_eq]; simp only; omega, by rw [imin_eq, imax_eq]; simp only; omega, by rw [imax_eq]; simp only; omega⟩⟩
    simp
    refine call_draw hp (by omega) (by omega) fun a u1 v1 hp1 a0 a1 => ?_
    simp
    refine call_draw hp1 (by omega) (by omega) fun b u2 v2 hp2 b0 b1 => ?_
    simp
    have ln : ∀ k : Nat, k ≤ 40 → k ≤ sizeLine := fun k h => by rw [sizeLine_eq]; omega
    by_cases hk : kind = 0
    · subst hk
      simp
      refine call_draw hp2 (by omega) (by omega) fun e u3 v3 hp3 e0 e1 => ?_
      by_cases he : 0 < e
      · simp [he]
        have hh : (top + md).fdiv 2 = (top + md) / 2 := Int.fdiv_eq_ediv_of_nonneg _ (by decide)
        refine ⟨⟨by omega, by omega⟩, ?_⟩
        refine call_draw hp3 (by omega) (by omega) fun f u4 v4 hp4 f0 f1 => ?_
        simp
        exact ⟨ln _ (by omega), fin u4 v4 f (top + md - f) hp4 f0 (by omega) (by omega) (by omega)⟩
      · simp [he]
        exact ⟨ln _ (by omega), fin u3 v3 a b hp3 a0 b0 (by omega) (by omega)⟩
    · by_cases hk1 : kind = 1
      · subst hk1
        simp
        refine call_draw hp2 (by omega) (by omega) fun e u3 v3 hp3 e0 e1 => ?_
        simp
        refine call_draw hp3 (by omega) (by omega) fun f u4 v4 hp4 f0 f1 => ?_
        simp
        exact ⟨ln _ (by omega), fin u4 v4 (i + e) (i + e + 2 + f) hp4 (by omega) (by omega) (by omega) (by omega)⟩
      · simp [hk, hk1]
        exact ⟨ln _ (by omega), fin u2 v2 a b hp2 a0 b0 (by omega) (by omega)⟩
  · rintro rho M ⟨u, v, ws, y1, y2, y3, hp, rfl, rfl, hl, hw⟩
    simp
    simp [rng_len] at hl
    exact pl_ret hp (by simpa [eWs] using c_pDs ws) (q ws ⟨by omega, by omega, hw⟩ hl (by simpa [eWs] using c_pDs ws) u v hp)
/-! ### a row -/
theorem perm_erase {α : Type} : ∀ (l : List α) (j : Nat) (h : j < l.length), (l[j] :: l.eraseIdx j).Perm l
  | a :: l, 0, _ => List.Perm.refl _
  | a :: l, j + 1, h => by
    have h' : j < l.length := by simpa using h
    have ih := perm_erase l j h'
    show (l[j] :: a :: l.eraseIdx j).Perm (a :: l)
    exact (List.Perm.swap _ _ _).trans (List.Perm.cons a ih)
theorem len_L_law_row (c : CA) : ∀ ds M Fc, p_L_law_row c ds M Fc → ds.length = 2 := by
  rintro ds M Fc ⟨u, v, xs, rfl, _, _, h, _⟩
  simp [h]
theorem map_erase {α β : Type} (f : α → β) : ∀ (l : List α) (j : Nat), (l.map f).eraseIdx j = (l.eraseIdx j).map f
  | [], _ => rfl
  | a :: l, 0 => rfl
  | a :: l, j + 1 => by
    show f a :: (l.map f).eraseIdx j = f a :: (l.eraseIdx j).map f
    rw [map_erase f l j]
theorem dw_L_law_row (c : CA) : ∀ ds M Fc, p_L_law_row c ds M Fc → w_L_law_row c (xcD M.length Fc) (finD M.length Fc) (startD ["_law_pool_here", "_law_works", "_law_left", "_law_k"] ds) M := by
  rintro ds M Fc ⟨u, v, xs, rfl, hp, rfl, _, _, works, rfl, h40, q⟩
  show w_L_law_row c (xcD 2 Fc) (finD 2 Fc) [some (.loc 1), some (eRow works), none, none] [u, v]
  simp [w_L_law_row]
  intro _
  have go : ∀ (Phi : D → List D → Prop) (rho : Rho), rho = [some (.loc 1), some (eRow works), some (.loc 2), none] → (∀ (u v : D) (done : List Nat), done.Perm works → IsPl u v → Phi (.lst (done.map eNat)) [u, v, .lst []]) → ∀ (xs : List D) (k : Nat) (u v : D) (left done : List Nat), xs.length = k → left.length = k → (done ++ left).Perm works → IsPl u v →
    lcGo (gN 3) wYes (wPop (wVar 2) (wCal (c_L_law_draw c) (wCons (wVar 0) (wCons (wCB oLen (wCons (wVar 2) wNil)) wNil)))) (fun _ => True) rho Phi xs (done.map eNat) [u, v, .lst (left.map eNat)] := by
    intro Phi rho hrho hPhi xs
    induction xs with
    | nil =>
      intro k u v left done hk hl hperm hp
      subst hk
      have : left = [] := List.length_eq_zero_iff.mp hl
      subst this
      simp
      exact hPhi u v done (by simpa using hperm) hp
    | cons x xs ih =>
      intro k u v left done hk hl hperm hp
      have hle := hperm.length_eq
      simp at hle hk
      simp [hrho]
      intro _
      refine call_draw hp (by omega) (by omega) fun j u1 v1 hp1 j0 j1 => ?_
      obtain ⟨m, rfl⟩ := Int.eq_ofNat_of_zero_le j0
      have hm : m < left.length := by omega
      have e1 : seqIndex? (m : Int) left.length = some m := by
        have hneg : ¬ ((m : Int) < 0) := by omega
        simp [seqIndex?, hneg, hm]
      simp [e1, hm]
      refine ⟨by omega, ?_⟩
      have e2 : done.map eNat ++ [eNat left[m]] = (done ++ [left[m]]).map eNat := by simp
      rw [e2, map_erase, ← hrho]
      refine ih (k - 1) u1 v1 (left.eraseIdx m) (done ++ [left[m]]) (by omega) (by rw [List.length_eraseIdx]; simp [hm]; omega) ?_ hp1
      refine List.Perm.trans ?_ hperm
      rw [List.append_assoc]
      exact List.Perm.append_left _ (perm_erase left m hm)
  refine ⟨by omega, by rw [rng_len, sizeLine_eq]; omega, ?_⟩
  refine go _ _ rfl (fun u v done hperm hp => ?_) _ works.length u v works [] (rng_len _ _) rfl (List.Perm.refl _) hp
  simp
  have hlt : ltL 0 (done.map eNat) = true := c_eNats 0 done
  exact pl_ret hp (by simpa using hlt) (q done hperm (by simpa [eRow] using hlt) u v hp)
end K72

namespace K72
open PySem L2 DL
theorem len_L_law_is_int (c : CA) : ∀ ds M Fc, pureP (f_L_law_is_int c) ds M Fc → ds.length = 1 := by
  rintro ds M Fc ⟨_, d, rfl, _⟩; rfl
theorem dw_L_law_is_int (c : CA) : ∀ ds M Fc, pureP (f_L_law_is_int c) ds M Fc → w_L_law_is_int c (xcD M.length Fc) (finD M.length Fc) (startD ["_law_thing"] ds) M := by
  rintro ds M Fc ⟨rfl, d, rfl, hf, q⟩
  show w_L_law_is_int c (xcD 0 Fc) (finD 0 Fc) [some d] []
  cases d <;> simp [flat] at hf <;> simp [w_L_law_is_int, isInt] at q ⊢ <;> exact ret0 rfl q
/-! ### all orders -/
end K72

namespace K72
open PySem L2 DL
/-! ### the law's own regret -/
def Ok4 (n x y u v : Nat) : Prop := x < y ∧ y < n ∧ x ≤ u ∧ u ≤ y ∧ x ≤ v ∧ v ≤ y ∧ u ≠ v
def val (ws : List Win) (r : List Nat) (x y u v : Nat) : Int := qv ws (r.getD x 0) (r.getD y 0) (r.getD u 0) (r.getD v 0)
structure PReg (ws : List Win) (r : List Nat) (P : Nat → Nat → Nat → Nat → Prop) (h : Int) : Prop where
  h0 : 0 ≤ h
  all : ∀ x y u v, Ok4 r.length x y u v → P x y u v → val ws r x y u v ≤ h
  ex : h = 0 ∨ ∃ x y u v, Ok4 r.length x y u v ∧ val ws r x y u v = h
theorem PReg.congr {ws r P P' h} (a : PReg ws r P h) (e : ∀ x y u v, Ok4 r.length x y u v → P' x y u v → P x y u v) : PReg ws r P' h := ⟨a.h0, fun x y u v o p => a.all x y u v o (e x y u v o p), a.ex⟩
theorem PReg.more {ws r P P' h} {i j a b : Nat} (z : PReg ws r P h) (o : Ok4 r.length i j a b) (e : ∀ x y u v, Ok4 r.length x y u v → P' x y u v → P x y u v ∨ (x = i ∧ y = j ∧ u = a ∧ v = b)) : PReg ws r P' (imax h (val ws r i j a b)) := by
  rw [imax_eq]
  refine ⟨by have := z.h0; omega, fun x y u v o' p => ?_, ?_⟩
  · rcases e x y u v o' p with p | ⟨rfl, rfl, rfl, rfl⟩
    · have := z.all _ _ _ _ o' p; omega
    · omega
  · rcases Int.le_total (val ws r i j a b) h with q | q
    · rw [Int.max_eq_left q]; exact z.ex
    · rw [Int.max_eq_right q]; exact .inr ⟨i, j, a, b, o, rfl⟩
def Upto (i j a b : Nat) : Nat → Nat → Nat → Nat → Prop := fun x y u v => x < i ∨ x = i ∧ (y < j ∨ y = j ∧ (u < a ∨ u = a ∧ v < b))
theorem getD_some {r : List Nat} {x i : Nat} (h : r[x]? = some i) : r.getD x 0 = i := by rw [List.getD_eq_getElem?_getD, h]; rfl
theorem PReg.reg {ws r h} (nd : r.Nodup) (a : PReg ws r (Upto r.length 0 0 0) h) : IsReg ws r h := by
  refine ⟨a.h0, fun i j f l q => ?_, a.ex.imp id ?_⟩
  · obtain ⟨x, y, u, v, h1, h2, h3, h4, h5, h6, h7, h8, h9, h10⟩ := (quad_iff nd).mp q
    have hx := (List.getElem?_eq_some_iff.mp h1).1
    have hy := (List.getElem?_eq_some_iff.mp h2).1
    have := a.all x y u v ⟨h5, hy, h6, h7, h8, h9, h10⟩ (.inl hx)
    simpa only [val, getD_some h1, getD_some h2, getD_some h3, getD_some h4] using this
  · rintro ⟨x, y, u, v, ⟨h5, hy, h6, h7, h8, h9, h10⟩, e⟩
    have g : ∀ k, k < r.length → r[k]? = some (r.getD k 0) := fun k hk => by rw [List.getD_eq_getElem?_getD, List.getElem?_eq_getElem hk]; rfl
    exact ⟨_, _, _, _, (quad_iff nd).mpr ⟨x, y, u, v, g _ (by omega), g _ hy, g _ (by omega), g _ (by omega), h5, h6, h7, h8, h9, h10⟩, e⟩
theorem cut_mid (xs : List D) (i k : Nat) (h : i ≤ k) : cutD xs (some (i : Int)) (some (k : Int)) = (xs.drop i).take (k - i) := by
  unfold cutD
  have e1 : HT.sIx xs.length 0 (some (i : Int)) = min i xs.length := by unfold HT.sIx; simp; omega
  have e2 : HT.sIx xs.length xs.length (some (k : Int)) = min k xs.length := by unfold HT.sIx; simp; omega
  rw [e1, e2]
  by_cases h1 : i ≤ xs.length
  · rw [Nat.min_eq_left h1]
    by_cases h2 : k ≤ xs.length
    · rw [Nat.min_eq_left h2]
    · rw [Nat.min_eq_right (by omega), List.take_of_length_le (by rw [List.length_drop]; omega), List.take_of_length_le (by rw [List.length_drop]; omega)]
  · rw [List.drop_eq_nil_of_le (by omega), List.drop_eq_nil_of_le (by omega), List.take_nil, List.take_nil]
theorem len_L_law_regret (c : CA) : ∀ ds M Fc, pureP (f_L_law_regret c) ds M Fc → ds.length = 2 := by
  rintro ds M Fc ⟨_, dw, ws, r, rfl, _⟩; rfl
theorem dw_L_law_regret (c : CA) : ∀ ds M Fc, pureP (f_L_law_regret c) ds M Fc → w_L_law_regret c (xcD M.length Fc) (finD M.length Fc) (startD ["_law_windows_here", "_law_order", "_law_best", "_law_begin", "_law_end", "_law_works", "_law_edge", "_law_one", "_law_other"] ds) M := by
  rintro ds M Fc ⟨rfl, dw, ws, r, rfl, hdw, hr, h4, q⟩
  have sd : ∀ M, seqOf M dw = some (ws.map pD) := fun M => by rcases hdw with rfl | rfl <;> rfl
  show w_L_law_regret c (xcD 0 Fc) (finD 0 Fc) [some dw, some (eRow r), none, none, none, none, none, none, none] []
  simp [w_L_law_regret]
  intro _
  refine ⟨by omega, ?_⟩
  have at_ws : ∀ (k : Nat), k ∈ r → ∃ w, ws[k]? = some w ∧ bgn ws k = w.1 ∧ fin ws k = w.2 := fun k hk => by
    have := hr.lt k hk
    refine ⟨ws[k], List.getElem?_eq_getElem this, ?_, ?_⟩ <;> simp [bgn, fin, List.getD_eq_getElem?_getD, this]
  refine forGo_inv (fun i rho M => ∃ (h : Int) (y1 y2 y3 y4 y5 y6 : Option D), rho = [some dw, some (eRow r), some (.int h), y1, y2, y3, y4, y5, y6] ∧ M = [] ∧ PReg ws r (Upto i 0 0 0) h) (fun _ _ _ _ => trivial) ?_ ?_ ⟨0, none, none, none, none, none, none, rfl, rfl, ⟨Int.le_refl _, fun x y u v o p => by unfold Upto at p; omega, .inl rfl⟩⟩
  · rintro i d rho M N hd ⟨h, y1, y2, y3, y4, y5, y6, rfl, rfl, S⟩ hN
    obtain ⟨hi, rfl⟩ := rng_item hd
    simp
    intro hsz
    refine ⟨⟨by omega, by omega, by omega⟩, ?_⟩
    have el : ((r.length : Int) - ((i : Int) + 1)).toNat = r.length - (i + 1) := by omega
    rw [el]
    have ri : r[i]? = some r[i] := List.getElem?_eq_getElem hi
    obtain ⟨w0, hw0, ew0, _⟩ := at_ws r[i] (List.getElem_mem hi)
    refine forGo_inv (fun j rho M => ∃ (h : Int) (y2 y3 y4 y5 y6 : Option D), rho = [some dw, some (eRow r), some (.int h), some (.int (i : Nat)), y2, y3, y4, y5, y6] ∧ M = [] ∧ PReg ws r (Upto i (i + 1 + j) 0 0) h) (fun _ _ _ _ => trivial) ?_ ?_ ⟨h, _, _, _, _, _, rfl, rfl, S.congr fun x y u v o p => by unfold Upto at p ⊢; unfold Ok4 at o; omega⟩
    · rintro j d rho M N2 hd ⟨h, y2, y3, y4, y5, y6, rfl, rfl, S⟩ hN2
      obtain ⟨hj, rfl⟩ := rng_item1 hd
      have hy : i + 1 + j < r.length := by omega
      obtain ⟨y, ey⟩ : ∃ y, i + 1 + j = y := ⟨_, rfl⟩
      have ej : (i : Int) + 1 + (j : Nat) = (y : Nat) := by omega
      rw [ej]
      rw [ey] at S hy
      have ry : r[y]? = some r[y] := List.getElem?_eq_getElem hy
      obtain ⟨w1, hw1, _, ew1⟩ := at_ws r[y] (List.getElem_mem hy)
      have cm : cutD (r.map eNat) (some (i : Int)) (some ((y : Int) + 1)) = ((r.drop i).take (y + 1 - i)).map eNat := by
        rw [show (y : Int) + 1 = ((y + 1 : Nat) : Int) by omega, cut_mid _ _ _ (by omega), ← List.map_drop, ← List.map_take]
      simp [cm, at_nat, ri, ry, eNat, hw0, hw1, pD, sd]
      intro hsm
      obtain ⟨L, hL⟩ : ∃ L, (r.drop i).take (y + 1 - i) = L := ⟨_, rfl⟩
      have eL : (List.take (y + 1 - i) (List.drop i (List.map eNat r))) = L.map eNat := by rw [← hL, List.map_take, List.map_drop]
      have lL : L.length = y + 1 - i := by rw [← hL, List.length_take, List.length_drop]; omega
      have gL : ∀ k a, L[k]? = some a → r[i + k]? = some a := fun k a e => by
        rw [← hL, List.getElem?_take, List.getElem?_drop] at e
        split at e
        · exact e
        · cases e
      rw [eL]
      have lt : ∀ k a, L[k]? = some a → k < y + 1 - i := fun k a e => by have := (List.getElem?_eq_some_iff.mp e).1; omega
      refine forGo_inv (fun k rho M => ∃ (h : Int) (y5 y6 : Option D), rho = [some dw, some (eRow r), some (.int h), some (.int (i : Nat)), some (.int (y : Nat)), some (.tup (L.map eNat)), some (.int (w0.fst - w1.snd)), y5, y6] ∧ M = [] ∧ PReg ws r (Upto i y (i + k) 0) h) (fun _ _ _ _ => trivial) ?_ ?_ ⟨h, _, _, rfl, rfl, S.congr fun x y u v o p => by unfold Upto at p ⊢; unfold Ok4 at o; omega⟩
      · rintro k d rho M N3 hd ⟨h, y5, y6, rfl, rfl, S⟩ hN3
        rw [List.getElem?_map] at hd
        cases hk : L[k]? with
        | none => rw [hk] at hd; cases hd
        | some f =>
          rw [hk] at hd
          cases hd
          have rk := gL k f hk
          have kl := lt k f hk
          obtain ⟨wf, hwf, ewf, _⟩ := at_ws f (List.mem_of_getElem? rk)
          simp
          intro hsn
          refine forGo_inv (fun m rho M => ∃ (h : Int) (y6 : Option D), rho = [some dw, some (eRow r), some (.int h), some (.int (i : Nat)), some (.int (y : Nat)), some (.tup (L.map eNat)), some (.int (w0.fst - w1.snd)), some (eNat f), y6] ∧ M = [] ∧ PReg ws r (Upto i y (i + k) (i + m)) h) (fun _ _ _ _ => trivial) ?_ ?_ ⟨h, _, rfl, rfl, S.congr fun x y u v o p => by unfold Upto at p ⊢; unfold Ok4 at o; omega⟩
          · rintro m d rho M N4 hd ⟨h, y6, rfl, rfl, S⟩ hN4
            rw [List.getElem?_map] at hd
            cases hm : L[m]? with
            | none => rw [hm] at hd; cases hd
            | some l =>
              rw [hm] at hd
              cases hd
              have rm := gL m l hm
              have ml := lt m l hm
              obtain ⟨wl, hwl, _, ewl⟩ := at_ws l (List.mem_of_getElem? rm)
              by_cases he : f = l
              · subst he
                have : k = m := by have := nd_ix hr.nd rk rm; omega
                subst this
                simp [eNat]
                exact hN4 _ _ ⟨h, _, rfl, rfl, S.congr fun x y u v o p => by unfold Upto at p ⊢; unfold Ok4 at o; omega⟩
              · have nkm : k ≠ m := fun e => he (by rw [e, rm] at rk; exact (Option.some.inj rk).symm)
                have ev : val ws r i y (i + k) (i + m) = w0.fst - w1.snd - wf.fst + wl.snd := by
                  unfold val qv
                  rw [getD_some ri, getD_some ry, getD_some rk, getD_some rm, ew0, ew1, ewf, ewl]
                  omega
                simp [eNat, show ¬ (f : Int) = (l : Int) from fun e => he (by omega), at_nat, hwf, hwl, pD, sd]
                rw [← ev]
                exact hN4 _ _ ⟨_, _, rfl, rfl, S.more (i := i) (j := y) (a := i + k) (b := i + m) ⟨by omega, by omega, by omega, by omega, by omega, by omega, by omega⟩ fun x y u v o p => by unfold Upto at p ⊢; unfold Ok4 at o; omega⟩
          · rintro rho M ⟨h, y6, rfl, rfl, S⟩
            rw [List.length_map, lL] at S
            exact hN3 _ _ ⟨h, _, _, rfl, rfl, S.congr fun x y u v o p => by unfold Upto at p ⊢; unfold Ok4 at o; omega⟩
      · rintro rho M ⟨h, y5, y6, rfl, rfl, S⟩
        rw [List.length_map, lL] at S
        exact hN2 _ _ ⟨h, _, _, _, _, _, rfl, rfl, S.congr fun x y u v o p => by unfold Upto at p ⊢; unfold Ok4 at o; omega⟩
    · rintro rho M ⟨h, y2, y3, y4, y5, y6, rfl, rfl, S⟩
      rw [rng_len] at S
      exact hN _ _ ⟨h, _, _, _, _, _, _, rfl, rfl, S.congr fun x y u v o p => by unfold Upto at p ⊢; unfold Ok4 at o; omega⟩
  · rintro rho M ⟨h, y1, y2, y3, y4, y5, y6, rfl, rfl, S⟩
    rw [rng_len] at S
    simp
    exact ret0 rfl (q h (S.reg hr.nd))
end K72

namespace K72
open PySem L2 DL
theorem rng_nat (n : Nat) : rngD 0 n = (List.range n).map eNat := by
  unfold rngD
  apply List.map_congr_left
  intro i _
  simp [eNat]
theorem len_L_law_right (c : CA) : ∀ ds M Fc, pureP (f_L_law_right c) ds M Fc → ds.length = 3 := by
  rintro ds M Fc ⟨_, b, ws, r, h, rfl, _⟩; rfl
theorem dw_L_law_right (c : CA) : ∀ ds M Fc, pureP (f_L_law_right c) ds M Fc → w_L_law_right c (xcD M.length Fc) (finD M.length Fc) (startD ["_law_book", "_law_order_here", "_law_due", "_law_told"] ds) M := by
  rintro ds M Fc ⟨rfl, b, ws, r, h, rfl, hr, hl, hreg, q⟩
  show w_L_law_right c (xcD 0 Fc) (finD 0 Fc) [some (eBk c b ws), some (eRow r), some (.int h), none] []
  simp [w_L_law_right]
  refine ⟨.inl rfl, b, ws, r, rfl, hr, hl, fun h2 r2 => ?_⟩
  have e : h = h2 := hreg.uniq r2
  subst e
  simp
  refine ⟨.inl rfl, _, rfl, trivial, ?_⟩
  simp [isInt]
  exact ret0 rfl q
theorem len_L_law_order (c : CA) : ∀ ds M Fc, p_L_law_order c ds M Fc → ds.length = 2 := by
  rintro ds M Fc ⟨u, v, xs, rfl, _, _, h, _⟩; simp [h]
theorem dw_L_law_order (c : CA) : ∀ ds M Fc, p_L_law_order c ds M Fc → w_L_law_order c (xcD M.length Fc) (finD M.length Fc) (startD ["_law_pool_here", "_law_windows_here", "_law_row_here", "_law_work"] ds) M := by
  rintro ds M Fc ⟨u, v, xs, rfl, hp, rfl, _, _, ws, rfl, hb, q⟩
  show w_L_law_order c (xcD 2 Fc) (finD 2 Fc) [some (.loc 1), some (eWs ws), none, none] [u, v]
  have hl40 := hb.h1
  simp [w_L_law_order]
  intro _
  rw [rng_nat]
  refine ⟨by omega, by rw [List.length_map, List.length_range]; omega, call_pl hp rfl (by simp [ltL]) ⟨List.range ws.length, rfl, by simp; omega, fun r hperm _ u v hp => ?_⟩⟩
  have hord : ∀ r' : List Nat, r'.Perm r → IsOrd ws.length r' := fun r' h' => by
    have hh := h'.trans hperm
    exact ⟨⟨hh.nodup_iff.mpr List.nodup_range, fun w hw => List.mem_range.mp (hh.mem_iff.mp hw)⟩, by rw [hh.length_eq, List.length_range]⟩
  simp
  refine call_draw hp (by omega) (by omega) fun j u v hp j0 j1 => ?_
  by_cases hj : j = 0
  · simp [hj]
    refine sortL_nat (fun w => bgn ws w + fin ws w) (fun w hw N hN => ?_) ?_
    · have := (hord r (List.Perm.refl _)).row.lt w hw
      simp [eWs, eNat, at_nat, this, pD]
      simpa [bgn, fin, this] using hN
    · simp
      exact pl_ret hp (by simpa [eRow] using c_eNats 0 _) (q _ (hord _ (List.mergeSort_perm _ _)) (by simp) u v hp)
  · simp [hj]
    exact pl_ret hp (by simp) (q _ (hord r (List.Perm.refl _)) (by simp) u v hp)
theorem len_L_law_some (c : CA) : ∀ ds M Fc, p_L_law_some c ds M Fc → ds.length = 2 := by
  rintro ds M Fc ⟨u, v, xs, rfl, _, _, h, _⟩; simp [h]
theorem dw_L_law_some (c : CA) : ∀ ds M Fc, p_L_law_some c ds M Fc → w_L_law_some c (xcD M.length Fc) (finD M.length Fc) (startD ["_law_pool_here", "_law_many", "_law_of", "_law_work"] ds) M := by
  rintro ds M Fc ⟨u, v, xs, rfl, hp, rfl, _, _, n, rfl, h40, q⟩
  show w_L_law_some c (xcD 2 Fc) (finD 2 Fc) [some (.loc 1), some (eNat n), none, none] [u, v]
  simp [w_L_law_some]
  refine call_draw hp (by omega) (by omega) fun j u v hp j0 j1 => ?_
  simp
  refine at_any j0 (by simpa using j1) fun d hd => ?_
  obtain ⟨k, rfl, k0, k1⟩ : ∃ k : Int, d = .int k ∧ 1 ≤ k ∧ k ≤ 4 := by
    simp at hd
    rcases hd with rfl | rfl | rfl <;> exact ⟨_, rfl, by decide, by decide⟩
  clear hd
  simp [eNat]
  rw [rng_nat]
  have go : ∀ (Phi : D → List D → Prop) (rho : Rho), rho = [some (.loc 1), some (.int (n : Nat)), some (.int k), none] → (∀ (u v : D) (g : List Nat), IsGrp n g → IsPl u v → Phi (.lst (g.map eNat)) [u, v]) → ∀ (left done : List Nat) (u v : D), IsGrp n (done ++ left) → IsPl u v →
    lcGo (gN 3) (wTst (wBin oGt (wCal (c_L_law_draw c) (wCons (wVar 0) (wCons (wBin oAdd (wVar 2) (wC (.int 1))) wNil))) (wC (.int 0)))) (wVar 3) (fun _ => True) rho Phi (left.map eNat) (done.map eNat) [u, v] := by
    intro Phi rho hrho hPhi left
    induction left with
    | nil =>
      intro done u v hg hp
      simp
      exact hPhi u v done (by simpa using hg) hp
    | cons x left ih =>
      intro done u v hg hp
      simp [hrho]
      refine call_draw hp (by omega) (by omega) fun j u1 v1 hp1 j0 j1 => ?_
      by_cases hj : 0 < j
      · simp [hj]
        have e2 : done.map eNat ++ [eNat x] = (done ++ [x]).map eNat := by simp
        rw [e2, ← hrho]
        exact ih (done ++ [x]) u1 v1 (by simpa using hg) hp1
      · simp [hj]
        rw [← hrho]
        exact ih done u1 v1 ⟨hg.asc.sublist (by simp), fun w hw => hg.lt w (by simp at hw ⊢; rcases hw with h | h; exact .inl h; exact .inr (.inr h))⟩ hp1
  have hg0 : IsGrp n ([] ++ List.range n) := ⟨List.pairwise_lt_range, fun w hw => by simpa using hw⟩
  refine ⟨by omega, by rw [List.length_map, List.length_range, sizeLine_eq]; omega, ?_⟩
  refine go _ _ rfl (fun u v g hg hp => ?_) (List.range n) [] u v hg0 hp
  simp
  have hlt : ltL 0 (g.map eNat) = true := c_eNats 0 g
  exact pl_ret hp (by simpa [D.lt] using hlt) (q g hg (by simpa [eT, D.lt] using hlt) u v hp)
end K72

namespace K72
open PySem L2 DL
theorem shf_len (i : Int) (ws : List Win) : (shf i ws).length = ws.length := by unfold shf; simp
theorem bgn_shf {i : Int} {ws : List Win} {w : Nat} (h : w < ws.length) : bgn (shf i ws) w = bgn ws w + i := by
  unfold bgn shf
  simp [List.getD_eq_getElem?_getD, h]
theorem fin_shf {i : Int} {ws : List Win} {w : Nat} (h : w < ws.length) : fin (shf i ws) w = fin ws w + i := by
  unfold fin shf
  simp [List.getD_eq_getElem?_getD, h]
theorem reg_shf {t : Int} {ws : List Win} {r : List Nat} {h : Int} (hr : IsRow ws.length r) (a : IsReg ws r h) : IsReg (shf t ws) r h := by
  have val : ∀ {i j f l}, Quad r i j f l → qv (shf t ws) i j f l = qv ws i j f l := fun {i j f l} q => by
    obtain ⟨m1, m2, m3, m4⟩ := q.mem
    unfold qv
    rw [bgn_shf (hr.lt _ m1), bgn_shf (hr.lt _ m3), fin_shf (hr.lt _ m4), fin_shf (hr.lt _ m2)]
    omega
  refine ⟨a.h0, fun i j f l q => ?_, a.ex.imp id fun ⟨i, j, f, l, q, e⟩ => ⟨i, j, f, l, q, ?_⟩⟩
  · rw [val q]; exact a.all _ _ _ _ q
  · rw [val q]; exact e
theorem ord_mem {n : Nat} {r : List Nat} (h : IsOrd n r) {w : Nat} (hw : w < n) : w ∈ r := by
  apply Classical.byContradiction
  intro hn
  have nd : (w :: r).Nodup := List.nodup_cons.mpr ⟨hn, h.row.nd⟩
  have := List.Nodup.length_le_of_subset nd (l₂ := List.range n) (fun x hx => by
    rcases List.mem_cons.mp hx with rfl | hx
    · exact List.mem_range.mpr hw
    · exact List.mem_range.mpr (h.row.lt x hx))
  rw [List.length_range, List.length_cons, h.len] at this
  omega
/-- the order of a group, by the places in it -/
def lessOf (g r : List Nat) : List Nat := (r.filter fun w => g.contains w).map fun w => g.idxOf w
theorem at_idx {g : List Nat} {x : Nat} (h : x ∈ g) : g.getD (g.idxOf x) 0 = x := by
  have hl := List.idxOf_lt_length_of_mem h
  rw [List.getD_eq_getElem?_getD, List.getElem?_eq_getElem hl, List.getElem_idxOf hl]
  rfl
theorem less_back (g r : List Nat) : (lessOf g r).map (fun k => g.getD k 0) = r.filter fun w => g.contains w := by
  unfold lessOf
  rw [List.map_map]
  conv => rhs; rw [← List.map_id (r.filter fun w => g.contains w)]
  apply List.map_congr_left
  intro x hx
  have : x ∈ g := by simpa using (List.mem_filter.mp hx).2
  exact at_idx this
theorem less_mem {g r : List Nat} {k : Nat} (h : k ∈ lessOf g r) : ∃ x, x ∈ r ∧ x ∈ g ∧ k = g.idxOf x ∧ g.getD k 0 = x := by
  unfold lessOf at h
  obtain ⟨x, hx, rfl⟩ := List.mem_map.mp h
  obtain ⟨h1, h2⟩ := List.mem_filter.mp hx
  have h2 : x ∈ g := by simpa using h2
  exact ⟨x, h1, h2, rfl, at_idx h2⟩
theorem sub_len (ws : List Win) (g : List Nat) : (sub ws g).length = g.length := by unfold sub; simp
theorem sub_at {ws : List Win} {g : List Nat} {k : Nat} (h : k < g.length) : (sub ws g).getD k (0, 0) = ws.getD (g.getD k 0) (0, 0) := by
  unfold sub
  simp [List.getD_eq_getElem?_getD, h]
theorem less_ord {ws : List Win} {g r : List Nat} (hg : IsGrp ws.length g) (hr : IsOrd ws.length r) : IsOrd (sub ws g).length (lessOf g r) := by
  have nd : (r.filter fun w => g.contains w).Nodup := hr.row.nd.sublist List.filter_sublist
  have hp : (r.filter fun w => g.contains w).Perm g := (List.perm_ext_iff_of_nodup nd hg.row.nd).mpr fun x => by
    rw [List.mem_filter]
    constructor
    · intro h; simpa using h.2
    · intro h; exact ⟨ord_mem hr (hg.lt x h), by simpa using h⟩
  refine ⟨⟨?_, fun k hk => ?_⟩, ?_⟩
  · have e := less_back g r
    rw [← e] at nd
    exact (List.pairwise_map.mp nd).imp fun h e => h (by rw [e])
  · obtain ⟨x, _, h2, rfl, _⟩ := less_mem hk
    rw [sub_len]
    exact List.idxOf_lt_length_of_mem h2
  · rw [sub_len]
    unfold lessOf
    rw [List.length_map, hp.length_eq]
theorem less_bef {g r : List Nat} {a b : Nat} (h : Bef (lessOf g r) a b) : Bef r (g.getD a 0) (g.getD b 0) := by
  have h1 := List.Sublist.map (fun k => g.getD k 0) h
  rw [less_back] at h1
  exact h1.trans List.filter_sublist
theorem less_befE {g r : List Nat} {a b : Nat} (h : BefE (lessOf g r) a b) : BefE r (g.getD a 0) (g.getD b 0) := by
  rcases h with ⟨rfl, h⟩ | h
  · obtain ⟨x, h1, _, _, e⟩ := less_mem h
    exact .inl ⟨rfl, by rw [e]; exact h1⟩
  · exact .inr (less_bef h)
theorem less_quad {g r : List Nat} {i j f l : Nat} (q : Quad (lessOf g r) i j f l) : Quad r (g.getD i 0) (g.getD j 0) (g.getD f 0) (g.getD l 0) := by
  obtain ⟨m1, m2, m3, m4⟩ := q.mem
  refine ⟨less_bef q.ij, fun e => q.ne ?_, less_befE q.f1, less_befE q.f2, less_befE q.l1, less_befE q.l2⟩
  obtain ⟨x, _, _, ex, e1⟩ := less_mem m3
  obtain ⟨y, _, _, ey, e2⟩ := less_mem m4
  rw [e1, e2] at e
  rw [ex, ey, e]
theorem less_le {ws : List Win} {g r : List Nat} {h h' : Int} (hg : IsGrp ws.length g) (hr : IsOrd ws.length r) (a : IsReg (sub ws g) (lessOf g r) h') (b : IsReg ws r h) : h' ≤ h := by
  rcases a.ex with e | ⟨i, j, f, l, q, e⟩
  · rw [e]; exact b.h0
  · have m := q.mem
    have lt := (less_ord hg hr).row.lt
    simp only [sub_len] at lt
    have := b.all _ _ _ _ (less_quad q)
    rw [← e]
    unfold qv bgn fin at this ⊢
    rw [sub_at (lt _ m.1), sub_at (lt _ m.2.1), sub_at (lt _ m.2.2.1), sub_at (lt _ m.2.2.2)]
    exact this
end K72

namespace K72
open PySem L2 DL
theorem call_pool {c : CA} {ns : List Int} {xc : XC} {rho : Rho} {Phi : D → List D → Prop} (h : ns.length ≤ 63) (q : ∀ u v, IsPl u v → Phi (.loc 1) [u, v]) : c_L_law_pool c xc rho [.lst (ns.map D.int)] [] Phi := by
  refine callM_of (P := p_L_law_pool c) [] (by simp) (by simp) (by simp) (by simp) ⟨ns, by simp, h, rfl, fun u v hp => ?_⟩
  obtain ⟨⟨ms, rfl⟩, a, b, rfl⟩ := hp
  simp [eCells, ePool, bck]
  exact q _ _ ⟨⟨ms, rfl⟩, a, b, rfl⟩
theorem IsOrd.mir {tp : Int} {ws : List Win} {r : List Nat} (h : IsOrd ws.length r) : IsOrd (mir tp ws).length r.reverse := by rw [mir_len]; exact h.rev
theorem vs_row : ∀ row : List Nat, vsOf (row.map eNat) = some (row.map fun (w : Nat) => V.int (w : Int))
  | [] => rfl
  | w :: r => by
    rw [List.map_cons, vsOf, vs_row r]
    rfl
theorem in_row (w : Nat) : ∀ row : List Nat, inV (.int (w : Nat)) (row.map fun (w : Nat) => V.int (w : Int)) = decide (w ∈ row)
  | [] => rfl
  | x :: r => by
    have ih := in_row w r
    unfold inV at ih ⊢
    rw [List.map_cons, List.any_cons, ih]
    have e : eqV (.int (x : Nat)) (.int (w : Nat)) = decide (x = w) := by
      show (((x : Nat) : Int) == ((w : Nat) : Int)) = _
      by_cases h : x = w
      · subst h; simp
      · rw [beq_eq_false_iff_ne.mpr (by omega)]; simp [h]
    rw [e]
    by_cases h : x = w
    · subst h; simp
    · simp [h, show ¬ w = x from fun z => h z.symm]
theorem in_tpx {M : List D} {w : Nat} {g : List Nat} {Psi : D → Prop} (q : Psi (.bl (decide (w ∈ g)))) : oIn false M (.int (w : Nat)) (.tpx (g.map eNat)) Psi := by
  unfold oIn
  have e : vOf (.int (w : Nat)) = some (V.int (w : Nat)) := rfl
  have e2 : seqOf M (.tpx (g.map eNat)) = some (g.map eNat) := rfl
  rw [e, e2]
  dsimp only
  rw [vs_row]
  dsimp only
  rw [in_row]
  exact q
theorem ints_nat (g : List Nat) : intsD (g.map eNat) = some (g.map fun (w : Nat) => (w : Int)) := by
  have e : g.map eNat = (g.map fun (w : Nat) => (w : Int)).map D.int := by rw [List.map_map]; rfl
  rw [e, intsD_map]
theorem idx_nat (w : Nat) : ∀ g : List Nat, (g.map fun (w : Nat) => (w : Int)).idxOf (w : Int) = g.idxOf w
  | [] => rfl
  | x :: r => by
    have ih := idx_nat w r
    rw [List.map_cons, List.idxOf_cons, List.idxOf_cons, ih]
    by_cases h : x = w
    · subst h; simp
    · rw [show ((x : Int) == (w : Int)) = false from beq_eq_false_iff_ne.mpr (by omega), show (x == w) = false from beq_eq_false_iff_ne.mpr h]
theorem less_fm (g : List Nat) : ∀ r : List Nat, r.filterMap (fun w => if g.contains w then some (eNat (g.idxOf w)) else none) = (lessOf g r).map eNat
  | [] => rfl
  | w :: r => by
    have ih := less_fm g r
    by_cases h : g.contains w = true
    · rw [List.filterMap_cons_some (by rw [if_pos h]), ih]
      unfold lessOf
      rw [List.filter_cons_of_pos h]
      rfl
    · rw [List.filterMap_cons_none (by rw [if_neg h]), ih]
      unfold lessOf
      rw [List.filter_cons_of_neg h]
theorem len_law (c : CA) : ∀ ds M Fc, pureP (f_law c) ds M Fc → ds.length = 1 := by
  rintro ds M Fc ⟨_, ns, rfl, _⟩; rfl
theorem dw_law (c : CA) : ∀ ds M Fc, pureP (f_law c) ds M Fc → w_law c (xcD M.length Fc) (finD M.length Fc) (startD ["_law_script", "_law_pool_here", "_law_many", "_law_windows_here", "_law_book", "_law_turned", "_law_later", "_law_turn", "_law_order_here", "_law_due", "_law_group", "_law_less", "_law_told", "_law_work"] ds) M := by
  rintro ds M Fc ⟨rfl, ns, rfl, h63, q⟩
  show w_law c (xcD 0 Fc) (finD 0 Fc) [some (.lst (ns.map D.int)), none, none, none, none, none, none, none, none, none, none, none, none, none] []
  have p5 : CPow 10 5 := by unfold CPow; decide
  have p6 : CPow 10 6 := by unfold CPow; decide
  simp [w_law]
  refine call_pool h63 fun u v hp => ?_
  simp
  refine call_draw hp (by omega) (by omega) fun a u v hp a0 a1 => ?_
  simp
  refine at_any a0 (by simpa using a1) fun d hd => ?_
  obtain ⟨m, rfl, m0, m1⟩ : ∃ m : Int, d = .int m ∧ 1 ≤ m ∧ m ≤ 16 := by
    simp at hd
    rcases hd with rfl | rfl <;> exact ⟨_, rfl, by decide, by decide⟩
  clear hd
  simp
  refine call_draw hp (by omega) (by omega) fun b u v hp b0 b1 => ?_
  simp
  refine call_draw hp (by omega) (by omega) fun e u v hp e0 e1 => ?_
  obtain ⟨n0, hn0, n01, n016⟩ : ∃ n : Nat, (1 : Int) + b = (n : Int) ∧ 1 ≤ n ∧ n ≤ 16 := ⟨(1 + b).toNat, by omega, by omega, by omega⟩
  rw [hn0]
  have rest : ∀ (n : Nat) (u v : D), 1 ≤ n → n ≤ 40 → IsPl u v → ∀ (rho : Rho), rho = [some (.lst (ns.map D.int)), some (.loc 1), some (.int (n : Nat)), none, none, none, none, none, none, none, none, none, none, none] → True := fun _ _ _ _ _ _ _ _ => trivial
  by_cases h5 : e = 5
  case' pos =>
    simp [h5, p5]
    refine call_draw hp (by omega) (by omega) fun f u v hp f0 f1 => ?_
    obtain ⟨n, hn, n1, n40⟩ : ∃ n : Nat, (17 : Int) + f = (n : Int) ∧ 1 ≤ n ∧ n ≤ 40 := ⟨(17 + f).toNat, by omega, by omega, by omega⟩
    simp [hn, p5]
  case' neg =>
    obtain ⟨n, hn, n1, n40⟩ : ∃ n : Nat, n0 = n ∧ 1 ≤ n ∧ n ≤ 40 := ⟨n0, rfl, by omega, by omega⟩
    rw [hn]
    simp [h5, p5]
  all_goals
    refine call_draw hp (by omega) (by omega) fun t u v hp t0 t1 => ?_
    simp
    refine at_any t0 (by simpa using t1) fun d hd => ?_
    obtain ⟨top, rfl, tp0, tp1⟩ : ∃ top : Int, d = .int top ∧ 1 ≤ top ∧ top ≤ 100000 := by
      simp at hd
      rcases hd with rfl | rfl | rfl <;> exact ⟨_, rfl, by decide, by decide⟩
    clear hd
    refine call_pl hp rfl rfl ⟨n, top, rfl, by omega, by omega, tp0, tp1, fun ws ok hl _ u v hp => ?_⟩
    simp
    refine call_book ok rfl ?_
    simp
    refine ⟨⟨lt_mono (pl_cl hp).1, (pl_cl hp).2⟩, .inr (by simp), true, ws, rfl, by intro z; rw [z] at hl; simp at hl; omega, by omega, fun tp => ?_⟩
    simp [p6]
    refine call_draw hp (by omega) (by omega) fun by_ u v hp by0 by1 => ?_
    simp
    refine ⟨.inr (by simp), true, ws, by_, rfl, ok, by0, ?_⟩
    simp
    generalize hits : rngD 0 3 = its
    refine forGo_inv (fun i rho M => ∃ (u v : D) (y1 y2 y3 y4 y5 y6 y7 : Option D), IsPl u v ∧ rho = [some (.lst (ns.map D.int)), some (.loc 1), some (.int (n : Nat)), some (eWs ws), some (eBk c true ws), some (eBk c false (mir tp ws)), some (eBk c false (shf by_ ws)), y1, y2, y3, y4, y5, y6, y7] ∧ M = [u, v]) (fun _ _ _ _ => trivial) ?_ ?_ ⟨u, v, _, _, _, _, _, _, _, hp, rfl, rfl⟩
    · rintro i d rho M N hd ⟨u, v, y1, y2, y3, y4, y5, y6, y7, hp, rfl, rfl⟩ hN
      simp
      refine call_pl hp rfl (by simp [ltL]) ⟨ws, rfl, ok, fun r ordr _ u v hp => ?_⟩
      have r40 : r.length ≤ 40 := by have := ordr.len; omega
      have rv : D.tup (r.map eNat).reverse = eRow r.reverse := by simp [eRow]
      have rl : r.reverse.length ≤ 4000 := by rw [List.length_reverse]; omega
      simp
      refine ⟨.inr (by simp), eWs ws, ws, r, rfl, .inl rfl, ordr.row, by omega, fun h reg => ?_⟩
      simp
      by_cases h16 : n > 16
      · simp [show (16 : Int) < n by omega]
        refine ⟨.inr (by simp), true, ws, r, h, rfl, ordr, by omega, reg, ?_⟩
        simp [rv]
        refine ⟨.inr (by simp), false, mir tp ws, r.reverse, h, rfl, ordr.mir, rl, reg_mir ordr.row reg, ?_⟩
        exact ret0 rfl q
      · simp [show ¬ (16 : Int) < n by omega]
        refine ⟨.inr (by simp), true, ws, r, h, rfl, ordr, by omega, reg, ?_⟩
        simp [rv]
        refine ⟨.inr (by simp), false, mir tp ws, r.reverse, h, rfl, ordr.mir, rl, reg_mir ordr.row reg, ?_⟩
        simp
        refine ⟨.inr (by simp), false, shf by_ ws, r, h, rfl, by rw [shf_len]; exact ordr, by omega, reg_shf ordr.row reg, ?_⟩
        simp [rv]
        refine ⟨.inr (by simp), eWs ws, ws, r.reverse, rfl, .inl rfl, ordr.rev.row, rl, fun hb regb => ?_⟩
        simp
        refine ⟨.inr (by simp), true, ws, r.reverse, hb, rfl, ordr.rev, rl, regb, ?_⟩
        simp
        refine call_pl hp rfl rfl ⟨n, rfl, by omega, fun g hg _ u v hp => ?_⟩
        simp [eT]
        by_cases hg0 : g = []
        · subst hg0
          simp
          exact hN _ _ ⟨u, v, _, _, _, _, _, _, _, hp, rfl, rfl⟩
        · have gp : 0 < g.length := List.length_pos_iff.mpr hg0
          have hg' : IsGrp ws.length g := by rw [hl]; exact hg
          have g40 : g.length ≤ 40 := by
            have := List.Nodup.length_le_of_subset hg.row.nd (l₂ := List.range n) (fun x hx => List.mem_range.mpr (hg.lt x hx))
            rw [List.length_range] at this
            omega
          simp [gp, hg0]
          intro _ _
          refine ⟨by rw [sizeLine_eq]; omega, ?_⟩
          refine lcGo_fm (fun w => if g.contains w then some (eNat (g.idxOf w)) else none) (by first | trivial | simp) r (fun w hw N acc q2 => ?_) [] ?_
          · simp [eNat]
            refine in_tpx ?_
            by_cases hm : w ∈ g
            · simp [hm]
              rw [ints_nat]
              simp [hm]
              rw [idx_nat]
              exact ⟨⟨w, hm, rfl⟩, by simpa [hm, eNat] using q2⟩
            · simpa [hm] using q2
          · have e1 : ([] : List D) ++ r.filterMap (fun w => if g.contains w then some (eNat (g.idxOf w)) else none) = (lessOf g r).map eNat := less_fm g r
            rw [e1]
            have e2 : D.tup ((lessOf g r).map eNat) = eRow (lessOf g r) := rfl
            have lord := less_ord hg' ordr
            have l40 : (lessOf g r).length ≤ 4000 := by rw [lord.len, sub_len]; omega
            have e3 : D.tpx (g.map eNat) = eT true g := rfl
            simp [e2, e3]
            refine ⟨.inr (by simp), true, ws, true, g, rfl, hg', hg0, by omega, ?_⟩
            simp
            refine ⟨.inr (by simp), false, sub ws g, lessOf g r, rfl, lord, l40, fun h2 reg2 => ?_⟩
            simp
            intro _
            refine ⟨by rw [sizeLine_eq]; omega, lcGo_map (fun w => pD (ws.getD w (0, 0))) (by first | trivial | simp) g (fun w hw N hN => ?_) ?_⟩
            · have := hg'.lt w hw
              simp [eWs, eNat, at_nat, this]
              simpa [this] using hN
            · simp
              refine ⟨.inr (by simp; exact l_map 0 (fun _ => rfl) g), .lst ((sub ws g).map pD), sub ws g, lessOf g r, by simp [sub, Function.comp_def], .inr rfl, lord.row, l40, fun h3 reg3 => ?_⟩
              have e4 : h2 = h3 := reg2.uniq reg3
              subst e4
              have e5 := less_le hg' ordr reg2 reg
              simp [show ¬ h < h2 by omega]
              exact hN _ _ ⟨u, v, _, _, _, _, _, _, _, hp, rfl, rfl⟩
    · rintro rho M ⟨u, v, y1, y2, y3, y4, y5, y6, y7, hp, rfl, rfl⟩
      simp
      exact ret0 rfl q
end K72

namespace K72
open PySem L2 DL
open PyProof.Rows (envOfC)

section
variable {P : Program} {w : World} {K : PySem.W.Frag} {mg : Str → Option Value} {base : Heap} {c : CA}
theorem hb_is_integer (T : Txt K mg base c) {f : Addr} (cdv : Value) (A : Around) (outer : List Env) (s : Shared) (H : Hp) (E : XK) (hr : Room 0 (A.deeper (envOfC "is_integer" (defScope s_is_integer) s.heap.objs.size f cdv))) :
    SDs (cxOf (L2.CX P w) P w K mg base ["thing"] "is_integer" (defScope s_is_integer) f cdv A outer s H E) (TT c) (WE0 E) (defBody s_is_integer) (w_is_integer c) := by
  have nd := sc_is_integer.nd
  have tk0 : Takes (cxOf (L2.CX P w) P w K mg base ["thing"] "is_integer" (defScope s_is_integer) f cdv A outer s H E) (WE0 E) := takes_of rfl rfl rfl rfl
  have po0 : PassesOwn (model P w) (A.deeper (envOfC "is_integer" (defScope s_is_integer) s.heap.objs.size f cdv)) (envOfC "is_integer" (defScope s_is_integer) s.heap.objs.size f cdv) (cxOf (L2.CX P w) P w K mg base ["thing"] "is_integer" (defScope s_is_integer) f cdv A outer s H E).xe := passes_of rfl
  have hu := hr.units
  have hu1 := hu_of hr
  exact (sds_one (sd_ret (ed_and (ed_cb call_isi od_isi (by rfl) T.z_isinstance bt_isinstance (EAn.plain (ea_cons (v 0) (ea_cons (ed_c (pe_bltn (v := .ty "int") (by rfl) T.z_int bt_int rfl) fun _ _ _ _ _ => .ty _) ea_nil)))) (ed_one (ed_not (ed_cb call_isi od_isi (by rfl) T.z_isinstance bt_isinstance (EAn.plain (ea_cons (v 0) (ea_cons (ed_c (pe_bltn (v := .ty "bool") (by rfl) T.z_bool bt_bool rfl) fun _ _ _ _ _ => .ty _) ea_nil)))))))))
theorem ok_is_integer (T : Txt K mg base c) : FnOk P w K mg base (L2.CX P w) 1 c.f_is_integer c.fd_is_integer ["thing"] (sp_is_integer K c) :=
  def_ok T.F_is_integer sc_is_integer (len_is_integer c) (fun cdv A outer s H E hr => hb_is_integer T cdv A outer s H E hr) (dw_is_integer c)
theorem hb_is_within (T : Txt K mg base c) {f : Addr} (cdv : Value) (A : Around) (outer : List Env) (s : Shared) (H : Hp) (E : XK) (hr : Room 1 (A.deeper (envOfC "is_within" (defScope s_is_within) s.heap.objs.size f cdv))) :
    SDs (cxOf (L2.CX P w) P w K mg base ["thing", "least", "most"] "is_within" (defScope s_is_within) f cdv A outer s H E) (TT c) (WE0 E) (defBody s_is_within) (w_is_within c) := by
  have nd := sc_is_within.nd
  have tk0 : Takes (cxOf (L2.CX P w) P w K mg base ["thing", "least", "most"] "is_within" (defScope s_is_within) f cdv A outer s H E) (WE0 E) := takes_of rfl rfl rfl rfl
  have po0 : PassesOwn (model P w) (A.deeper (envOfC "is_within" (defScope s_is_within) s.heap.objs.size f cdv)) (envOfC "is_within" (defScope s_is_within) s.heap.objs.size f cdv) (cxOf (L2.CX P w) P w K mg base ["thing", "least", "most"] "is_within" (defScope s_is_within) f cdv A outer s H E).xe := passes_of rfl
  have hu := hr.units
  have hu1 := hu_of hr
  have G_is_integer := ok_is_integer (P := P) (w := w) (base := base) T
  exact (sds_one (sd_ret (ed_and (ed_cal G_is_integer (cc_is_integer) (hr.mono (by decide)) (by rfl) T.m_is_integer T.F_is_integer.kp T.b_is_integer tk0 (EAn.plain (ea_cons (v 0) ea_nil))) (ed_one (ed_chain op_le op_le od_le od_le (v 1) (v 0) (v 2))))))
theorem ok_is_within (T : Txt K mg base c) : FnOk P w K mg base (L2.CX P w) 2 c.f_is_within c.fd_is_within ["thing", "least", "most"] (sp_is_within K c) :=
  def_ok T.F_is_within sc_is_within (len_is_within c) (fun cdv A outer s H E hr => hb_is_within T cdv A outer s H E hr) (dw_is_within c)
theorem hb_is_pair (T : Txt K mg base c) {f : Addr} (cdv : Value) (A : Around) (outer : List Env) (s : Shared) (H : Hp) (E : XK) (hr : Room 0 (A.deeper (envOfC "is_pair" (defScope s_is_pair) s.heap.objs.size f cdv))) :
    SDs (cxOf (L2.CX P w) P w K mg base ["thing"] "is_pair" (defScope s_is_pair) f cdv A outer s H E) (TT c) (WE0 E) (defBody s_is_pair) (w_is_pair c) := by
  have nd := sc_is_pair.nd
  have tk0 : Takes (cxOf (L2.CX P w) P w K mg base ["thing"] "is_pair" (defScope s_is_pair) f cdv A outer s H E) (WE0 E) := takes_of rfl rfl rfl rfl
  have po0 : PassesOwn (model P w) (A.deeper (envOfC "is_pair" (defScope s_is_pair) s.heap.objs.size f cdv)) (envOfC "is_pair" (defScope s_is_pair) s.heap.objs.size f cdv) (cxOf (L2.CX P w) P w K mg base ["thing"] "is_pair" (defScope s_is_pair) f cdv A outer s H E).xe := passes_of rfl
  have hu := hr.units
  have hu1 := hu_of hr
  exact (sds_one (sd_ret (ed_and (ed_cb call_isi od_isi (by rfl) T.z_isinstance bt_isinstance (EAn.plain (ea_cons (v 0) (ea_cons (ed_c (pe_bltn (v := .ty "tuple") (by rfl) T.z_tuple bt_tuple rfl) fun _ _ _ _ _ => .ty _) ea_nil)))) (ed_one (ed_cmp (op_eqD hu) od_eq (ed_cb call_len od_len (by rfl) T.z_len bt_len (EAn.plain (ea_cons (v 0) ea_nil))) ed_int (by first | exact nomark _ | rfl))))))
theorem ok_is_pair (T : Txt K mg base c) : FnOk P w K mg base (L2.CX P w) 1 c.f_is_pair c.fd_is_pair ["thing"] (sp_is_pair K c) :=
  def_ok T.F_is_pair sc_is_pair (len_is_pair c) (fun cdv A outer s H E hr => hb_is_pair T cdv A outer s H E hr) (dw_is_pair c)
theorem hb_are_ascending (T : Txt K mg base c) {f : Addr} (cdv : Value) (A : Around) (outer : List Env) (s : Shared) (H : Hp) (E : XK) (hr : Room 0 (A.deeper (envOfC "are_ascending" (defScope s_are_ascending) s.heap.objs.size f cdv))) :
    SDs (cxOf (L2.CX P w) P w K mg base ["numbers", "one", "other"] "are_ascending" (defScope s_are_ascending) f cdv A outer s H E) (TT c) (WE0 E) (defBody s_are_ascending) (w_are_ascending c) := by
  have nd := sc_are_ascending.nd
  have tk0 : Takes (cxOf (L2.CX P w) P w K mg base ["numbers", "one", "other"] "are_ascending" (defScope s_are_ascending) f cdv A outer s H E) (WE0 E) := takes_of rfl rfl rfl rfl
  have po0 : PassesOwn (model P w) (A.deeper (envOfC "are_ascending" (defScope s_are_ascending) s.heap.objs.size f cdv)) (envOfC "are_ascending" (defScope s_are_ascending) s.heap.objs.size f cdv) (cxOf (L2.CX P w) P w K mg base ["numbers", "one", "other"] "are_ascending" (defScope s_are_ascending) f cdv A outer s H E).xe := passes_of rfl
  have hu := hr.units
  have hu1 := hu_of hr
  exact (sds_one (sd_ret (ed_cb (cr_all rfl) od_all (by rfl) T.z_all bt_all (EAn.plain (ea_cons (EN.d (en_lc (own := [("one", 1), ("other", 2)]) (is := [1, 2]) (by rfl) nd (id_zip (by rfl) T.z_zip (v 0) (ed_sl sl_any od_slX (v 0) (eo_some ed_int) eo_none)) (blkOk_by (N := ["numbers", "one", "other"]) (sc := defScope s_are_ascending) (by decide +kernel)) (fun _ _ _ _ _ => (gd_tup rfl (gds_cons (gn nd) (gds_cons (gn nd) gds_nil)))) (fun _ _ _ _ _ => ep_nil) (fun _ _ _ _ _ => (ed_cmp op_lt od_lt (v 1) (v 2) (by first | exact nomark _ | rfl))) (by decide))) ea_nil)))))
theorem ok_are_ascending (T : Txt K mg base c) : FnOk P w K mg base (L2.CX P w) 1 c.f_are_ascending c.fd_are_ascending ["numbers"] (sp_are_ascending K c) :=
  def_ok T.F_are_ascending sc_are_ascending (len_are_ascending c) (fun cdv A outer s H E hr => hb_are_ascending T cdv A outer s H E hr) (dw_are_ascending c)
theorem hb_is_window (T : Txt K mg base c) {f : Addr} (cdv : Value) (A : Around) (outer : List Env) (s : Shared) (H : Hp) (E : XK) (hr : Room 2 (A.deeper (envOfC "is_window" (defScope s_is_window) s.heap.objs.size f cdv))) :
    SDs (cxOf (L2.CX P w) P w K mg base ["thing"] "is_window" (defScope s_is_window) f cdv A outer s H E) (TT c) (WE0 E) (defBody s_is_window) (w_is_window c) := by
  have nd := sc_is_window.nd
  have tk0 : Takes (cxOf (L2.CX P w) P w K mg base ["thing"] "is_window" (defScope s_is_window) f cdv A outer s H E) (WE0 E) := takes_of rfl rfl rfl rfl
  have po0 : PassesOwn (model P w) (A.deeper (envOfC "is_window" (defScope s_is_window) s.heap.objs.size f cdv)) (envOfC "is_window" (defScope s_is_window) s.heap.objs.size f cdv) (cxOf (L2.CX P w) P w K mg base ["thing"] "is_window" (defScope s_is_window) f cdv A outer s H E).xe := passes_of rfl
  have hu := hr.units
  have hu1 := hu_of hr
  have G_is_pair := ok_is_pair (P := P) (w := w) (base := base) T
  have G_is_within := ok_is_within (P := P) (w := w) (base := base) T
  exact (sds_one (sd_ret (ed_and (ed_cal G_is_pair (cc_is_pair) (hr.mono (by decide)) (by rfl) T.m_is_pair T.F_is_pair.kp T.b_is_pair tk0 (EAn.plain (ea_cons (v 0) ea_nil))) (ed_and (ed_cal G_is_within (cc_is_within) (hr.mono (by decide)) (by rfl) T.m_is_within T.F_is_within.kp T.b_is_within tk0 (EAn.plain (ea_cons (ed_ix ix_seq od_ix (v 0) ed_int (fun _ _ => rfl)) (ea_cons ed_int (ea_cons (ed_k T.g_MOST_HOUR (by rfl)) ea_nil))))) (ed_one (ed_cal G_is_within (cc_is_within) (hr.mono (by decide)) (by rfl) T.m_is_within T.F_is_within.kp T.b_is_within tk0 (EAn.plain (ea_cons (ed_ix ix_seq od_ix (v 0) ed_int (fun _ _ => rfl)) (ea_cons (ed_ix ix_seq od_ix (v 0) ed_int (fun _ _ => rfl)) (ea_cons (ed_k T.g_MOST_HOUR (by rfl)) ea_nil))))))))))
theorem ok_is_window (T : Txt K mg base c) : FnOk P w K mg base (L2.CX P w) 3 c.f_is_window c.fd_is_window ["thing"] (sp_is_window K c) :=
  def_ok T.F_is_window sc_is_window (len_is_window c) (fun cdv A outer s H E hr => hb_is_window T cdv A outer s H E hr) (dw_is_window c)
theorem hb_Book_init (T : Txt K mg base c) {f : Addr} (cdv : Value) (A : Around) (outer : List Env) (s : Shared) (H : Hp) (E : XK) (hr : Room 3 (A.deeper (envOfC "Book.__init__" (defScope s_Book_init) s.heap.objs.size f cdv))) :
    SDs (cxOf (L2.CX P w) P w K mg base ["self", "windows", "window"] "Book.__init__" (defScope s_Book_init) f cdv A outer s H E) (TT c) (WE0 E) (defBody s_Book_init) (w_Book_init c) := by
  have nd := sc_Book_init.nd
  have tk0 : Takes (cxOf (L2.CX P w) P w K mg base ["self", "windows", "window"] "Book.__init__" (defScope s_Book_init) f cdv A outer s H E) (WE0 E) := takes_of rfl rfl rfl rfl
  have po0 : PassesOwn (model P w) (A.deeper (envOfC "Book.__init__" (defScope s_Book_init) s.heap.objs.size f cdv)) (envOfC "Book.__init__" (defScope s_Book_init) s.heap.objs.size f cdv) (cxOf (L2.CX P w) P w K mg base ["self", "windows", "window"] "Book.__init__" (defScope s_Book_init) f cdv A outer s H E).xe := passes_of rfl
  have hu := hr.units
  have hu1 := hu_of hr
  have G_is_window := ok_is_window (P := P) (w := w) (base := base) T
  exact (sds_cons (sd_if (EW.t (ew_or (et_not (et_val (ed_cb call_isi od_isi (by rfl) T.z_isinstance bt_isinstance (EAn.plain (ea_cons (v 1) (ea_cons (ed_c (pe_bltn (v := .ty "tuple") (by rfl) T.z_tuple bt_tuple rfl) fun _ _ _ _ _ => .ty _) ea_nil)))))) (ew_or1 (et_not (et_chain op_le op_le od_le od_le ed_int (ed_cb call_len od_len (by rfl) T.z_len bt_len (EAn.plain (ea_cons (v 1) ea_nil))) (ed_k T.g_MOST_WORKS (by rfl))))))) (sds_one (sd_raise0 rfl tk0 (pmk_own0 PySem.F.excBase_ValueError T.x_BadBook T.m_BadBook T.q_BadBook (raises_own T.s_BadBook T.y_BadBook) (by rfl)))) sds_nil)
    (sds_cons (sd_if (et_not (et_val (ed_cb (cr_all rfl) od_all (by rfl) T.z_all bt_all (EAn.plain (ea_cons (EN.d (en_lc (own := [("window", 2)]) (is := [2]) (by rfl) nd (id_seq (v 1)) (blkOk_by (N := ["self", "windows", "window"]) (sc := defScope s_Book_init) (by decide +kernel)) (fun _ _ _ _ _ => (gn nd)) (fun _ _ _ _ _ => ep_nil) (fun _ _ _ _ _ => (ed_cal G_is_window (cc_is_window) (hr.mono (by decide)) (by rfl) T.m_is_window T.F_is_window.kp T.b_is_window takesN (EAn.plain (ea_cons (v 2) ea_nil)))) (by decide))) ea_nil))))) (sds_one (sd_raise0 rfl tk0 (pmk_own0 PySem.F.excBase_ValueError T.x_BadBook T.m_BadBook T.q_BadBook (raises_own T.s_BadBook T.y_BadBook) (by rfl)))) sds_nil)
    (sds_cons (sd_fld (mem2 T.k_Book T.n_Book_windows T.k_RawBook T.n_RawBook_windows) (v 0) (v 1))
    (sds_one (sd_fld (mem2 T.k_Book T.n_Book_kept_windows T.k_RawBook T.n_RawBook_kept_windows) (v 0) (v 1))))))
theorem ok_Book_init (T : Txt K mg base c) : FnOk P w K mg base (L2.CX P w) 4 c.f_Book_init c.fd_Book_init ["self", "windows"] (sp_Book_init K c) :=
  def_ok T.F_Book_init sc_Book_init (len_Book_init c) (fun cdv A outer s H E hr => hb_Book_init T cdv A outer s H E hr) (dw_Book_init c)
theorem hb_RawBook_init (T : Txt K mg base c) {f : Addr} (cdv : Value) (A : Around) (outer : List Env) (s : Shared) (H : Hp) (E : XK) (hr : Room 0 (A.deeper (envOfC "RawBook.__init__" (defScope s_RawBook_init) s.heap.objs.size f cdv))) :
    SDs (cxOf (L2.CX P w) P w K mg base ["self", "windows"] "RawBook.__init__" (defScope s_RawBook_init) f cdv A outer s H E) (TT c) (WE0 E) (defBody s_RawBook_init) (w_RawBook_init c) := by
  have nd := sc_RawBook_init.nd
  have tk0 : Takes (cxOf (L2.CX P w) P w K mg base ["self", "windows"] "RawBook.__init__" (defScope s_RawBook_init) f cdv A outer s H E) (WE0 E) := takes_of rfl rfl rfl rfl
  have po0 : PassesOwn (model P w) (A.deeper (envOfC "RawBook.__init__" (defScope s_RawBook_init) s.heap.objs.size f cdv)) (envOfC "RawBook.__init__" (defScope s_RawBook_init) s.heap.objs.size f cdv) (cxOf (L2.CX P w) P w K mg base ["self", "windows"] "RawBook.__init__" (defScope s_RawBook_init) f cdv A outer s H E).xe := passes_of rfl
  have hu := hr.units
  have hu1 := hu_of hr
  exact (sds_cons (sd_fld (mem2 T.k_Book T.n_Book_windows T.k_RawBook T.n_RawBook_windows) (v 0) (v 1))
    (sds_one (sd_fld (mem2 T.k_Book T.n_Book_kept_windows T.k_RawBook T.n_RawBook_kept_windows) (v 0) (v 1))))
theorem ok_RawBook_init (T : Txt K mg base c) : FnOk P w K mg base (L2.CX P w) 1 c.f_RawBook_init c.fd_RawBook_init ["self", "windows"] (sp_RawBook_init K c) :=
  def_ok T.F_RawBook_init sc_RawBook_init (len_RawBook_init c) (fun cdv A outer s H E hr => hb_RawBook_init T cdv A outer s H E hr) (dw_RawBook_init c)
theorem hb_raw_book (T : Txt K mg base c) {f : Addr} (cdv : Value) (A : Around) (outer : List Env) (s : Shared) (H : Hp) (E : XK) (hr : Room 2 (A.deeper (envOfC "raw_book" (defScope s_raw_book) s.heap.objs.size f cdv))) :
    SDs (cxOf (L2.CX P w) P w K mg base ["windows"] "raw_book" (defScope s_raw_book) f cdv A outer s H E) (TT c) (WE0 E) (defBody s_raw_book) (w_raw_book c) := by
  have nd := sc_raw_book.nd
  have tk0 : Takes (cxOf (L2.CX P w) P w K mg base ["windows"] "raw_book" (defScope s_raw_book) f cdv A outer s H E) (WE0 E) := takes_of rfl rfl rfl rfl
  have po0 : PassesOwn (model P w) (A.deeper (envOfC "raw_book" (defScope s_raw_book) s.heap.objs.size f cdv)) (envOfC "raw_book" (defScope s_raw_book) s.heap.objs.size f cdv) (cxOf (L2.CX P w) P w K mg base ["windows"] "raw_book" (defScope s_raw_book) f cdv A outer s H E).xe := passes_of rfl
  have hu := hr.units
  have hu1 := hu_of hr
  have G_RawBook_init := ok_RawBook_init (P := P) (w := w) (base := base) T
  exact (sds_one (sd_ret (ed_makeI T.mk_RawBook G_RawBook_init (cc_RawBook_init) (hr.mono (by decide)) (by rfl) T.m_RawBook T.b_RawBook_init tk0 (EAn.plain (ea_cons (ed_ct call_tuple_of od_tuple (by rfl) T.z_tuple bt_tuple (EAn.plain (ea_cons (v 0) ea_nil))) ea_nil)))))
theorem ok_raw_book (T : Txt K mg base c) : FnOk P w K mg base (L2.CX P w) 3 c.f_raw_book c.fd_raw_book ["windows"] (sp_raw_book K c) :=
  def_ok T.F_raw_book sc_raw_book (len_raw_book c) (fun cdv A outer s H E hr => hb_raw_book T cdv A outer s H E hr) (dw_raw_book c)
theorem hb_many_of (T : Txt K mg base c) {f : Addr} (cdv : Value) (A : Around) (outer : List Env) (s : Shared) (H : Hp) (E : XK) (hr : Room 0 (A.deeper (envOfC "many_of" (defScope s_many_of) s.heap.objs.size f cdv))) :
    SDs (cxOf (L2.CX P w) P w K mg base ["book"] "many_of" (defScope s_many_of) f cdv A outer s H E) (TT c) (WE0 E) (defBody s_many_of) (w_many_of c) := by
  have nd := sc_many_of.nd
  have tk0 : Takes (cxOf (L2.CX P w) P w K mg base ["book"] "many_of" (defScope s_many_of) f cdv A outer s H E) (WE0 E) := takes_of rfl rfl rfl rfl
  have po0 : PassesOwn (model P w) (A.deeper (envOfC "many_of" (defScope s_many_of) s.heap.objs.size f cdv)) (envOfC "many_of" (defScope s_many_of) s.heap.objs.size f cdv) (cxOf (L2.CX P w) P w K mg base ["book"] "many_of" (defScope s_many_of) f cdv A outer s H E).xe := passes_of rfl
  have hu := hr.units
  have hu1 := hu_of hr
  exact (sds_one (sd_ret (ed_cb call_len od_len (by rfl) T.z_len bt_len (EAn.plain (ea_cons (ed_fld (mem2 T.k_Book T.n_Book_kept_windows T.k_RawBook T.n_RawBook_kept_windows) (v 0)) ea_nil)))))
theorem ok_many_of (T : Txt K mg base c) : FnOk P w K mg base (L2.CX P w) 1 c.f_many_of c.fd_many_of ["book"] (sp_many_of K c) :=
  def_ok T.F_many_of sc_many_of (len_many_of c) (fun cdv A outer s H E hr => hb_many_of T cdv A outer s H E hr) (dw_many_of c)
theorem hb_first_of (T : Txt K mg base c) {f : Addr} (cdv : Value) (A : Around) (outer : List Env) (s : Shared) (H : Hp) (E : XK) (hr : Room 0 (A.deeper (envOfC "first_of" (defScope s_first_of) s.heap.objs.size f cdv))) :
    SDs (cxOf (L2.CX P w) P w K mg base ["book", "work"] "first_of" (defScope s_first_of) f cdv A outer s H E) (TT c) (WE0 E) (defBody s_first_of) (w_first_of c) := by
  have nd := sc_first_of.nd
  have tk0 : Takes (cxOf (L2.CX P w) P w K mg base ["book", "work"] "first_of" (defScope s_first_of) f cdv A outer s H E) (WE0 E) := takes_of rfl rfl rfl rfl
  have po0 : PassesOwn (model P w) (A.deeper (envOfC "first_of" (defScope s_first_of) s.heap.objs.size f cdv)) (envOfC "first_of" (defScope s_first_of) s.heap.objs.size f cdv) (cxOf (L2.CX P w) P w K mg base ["book", "work"] "first_of" (defScope s_first_of) f cdv A outer s H E).xe := passes_of rfl
  have hu := hr.units
  have hu1 := hu_of hr
  exact (sds_one (sd_ret (ed_ix ix_seq od_ix (ed_ix ix_seq od_ix (ed_fld (mem2 T.k_Book T.n_Book_kept_windows T.k_RawBook T.n_RawBook_kept_windows) (v 0)) (v 1) (fun _ _ => rfl)) ed_int (fun _ _ => rfl))))
theorem ok_first_of (T : Txt K mg base c) : FnOk P w K mg base (L2.CX P w) 1 c.f_first_of c.fd_first_of ["book", "work"] (sp_first_of K c) :=
  def_ok T.F_first_of sc_first_of (len_first_of c) (fun cdv A outer s H E hr => hb_first_of T cdv A outer s H E hr) (dw_first_of c)
theorem hb_last_of (T : Txt K mg base c) {f : Addr} (cdv : Value) (A : Around) (outer : List Env) (s : Shared) (H : Hp) (E : XK) (hr : Room 0 (A.deeper (envOfC "last_of" (defScope s_last_of) s.heap.objs.size f cdv))) :
    SDs (cxOf (L2.CX P w) P w K mg base ["book", "work"] "last_of" (defScope s_last_of) f cdv A outer s H E) (TT c) (WE0 E) (defBody s_last_of) (w_last_of c) := by
  have nd := sc_last_of.nd
  have tk0 : Takes (cxOf (L2.CX P w) P w K mg base ["book", "work"] "last_of" (defScope s_last_of) f cdv A outer s H E) (WE0 E) := takes_of rfl rfl rfl rfl
  have po0 : PassesOwn (model P w) (A.deeper (envOfC "last_of" (defScope s_last_of) s.heap.objs.size f cdv)) (envOfC "last_of" (defScope s_last_of) s.heap.objs.size f cdv) (cxOf (L2.CX P w) P w K mg base ["book", "work"] "last_of" (defScope s_last_of) f cdv A outer s H E).xe := passes_of rfl
  have hu := hr.units
  have hu1 := hu_of hr
  exact (sds_one (sd_ret (ed_ix ix_seq od_ix (ed_ix ix_seq od_ix (ed_fld (mem2 T.k_Book T.n_Book_kept_windows T.k_RawBook T.n_RawBook_kept_windows) (v 0)) (v 1) (fun _ _ => rfl)) ed_int (fun _ _ => rfl))))
theorem ok_last_of (T : Txt K mg base c) : FnOk P w K mg base (L2.CX P w) 1 c.f_last_of c.fd_last_of ["book", "work"] (sp_last_of K c) :=
  def_ok T.F_last_of sc_last_of (len_last_of c) (fun cdv A outer s H E hr => hb_last_of T cdv A outer s H E hr) (dw_last_of c)
theorem hb_is_work (T : Txt K mg base c) {f : Addr} (cdv : Value) (A : Around) (outer : List Env) (s : Shared) (H : Hp) (E : XK) (hr : Room 2 (A.deeper (envOfC "is_work" (defScope s_is_work) s.heap.objs.size f cdv))) :
    SDs (cxOf (L2.CX P w) P w K mg base ["book", "thing"] "is_work" (defScope s_is_work) f cdv A outer s H E) (TT c) (WE0 E) (defBody s_is_work) (w_is_work c) := by
  have nd := sc_is_work.nd
  have tk0 : Takes (cxOf (L2.CX P w) P w K mg base ["book", "thing"] "is_work" (defScope s_is_work) f cdv A outer s H E) (WE0 E) := takes_of rfl rfl rfl rfl
  have po0 : PassesOwn (model P w) (A.deeper (envOfC "is_work" (defScope s_is_work) s.heap.objs.size f cdv)) (envOfC "is_work" (defScope s_is_work) s.heap.objs.size f cdv) (cxOf (L2.CX P w) P w K mg base ["book", "thing"] "is_work" (defScope s_is_work) f cdv A outer s H E).xe := passes_of rfl
  have hu := hr.units
  have hu1 := hu_of hr
  have G_is_within := ok_is_within (P := P) (w := w) (base := base) T
  have G_many_of := ok_many_of (P := P) (w := w) (base := base) T
  exact (sds_one (sd_ret (ed_cal G_is_within (cc_is_within) (hr.mono (by decide)) (by rfl) T.m_is_within T.F_is_within.kp T.b_is_within tk0 (EAn.plain (ea_cons (v 1) (ea_cons ed_int (ea_cons (ed_bin op_sub od_sub (ed_cal G_many_of (cc_many_of) (hr.mono (by decide)) (by rfl) T.m_many_of T.F_many_of.kp T.b_many_of tk0 (EAn.plain (ea_cons (v 0) ea_nil))) ed_int) ea_nil)))))))
theorem ok_is_work (T : Txt K mg base c) : FnOk P w K mg base (L2.CX P w) 3 c.f_is_work c.fd_is_work ["book", "thing"] (sp_is_work K c) :=
  def_ok T.F_is_work sc_is_work (len_is_work c) (fun cdv A outer s H E hr => hb_is_work T cdv A outer s H E hr) (dw_is_work c)
theorem hb_is_row (T : Txt K mg base c) {f : Addr} (cdv : Value) (A : Around) (outer : List Env) (s : Shared) (H : Hp) (E : XK) (hr : Room 3 (A.deeper (envOfC "is_row" (defScope s_is_row) s.heap.objs.size f cdv))) :
    SDs (cxOf (L2.CX P w) P w K mg base ["book", "thing", "work"] "is_row" (defScope s_is_row) f cdv A outer s H E) (TT c) (WE0 E) (defBody s_is_row) (w_is_row c) := by
  have nd := sc_is_row.nd
  have tk0 : Takes (cxOf (L2.CX P w) P w K mg base ["book", "thing", "work"] "is_row" (defScope s_is_row) f cdv A outer s H E) (WE0 E) := takes_of rfl rfl rfl rfl
  have po0 : PassesOwn (model P w) (A.deeper (envOfC "is_row" (defScope s_is_row) s.heap.objs.size f cdv)) (envOfC "is_row" (defScope s_is_row) s.heap.objs.size f cdv) (cxOf (L2.CX P w) P w K mg base ["book", "thing", "work"] "is_row" (defScope s_is_row) f cdv A outer s H E).xe := passes_of rfl
  have hu := hr.units
  have hu1 := hu_of hr
  have G_is_work := ok_is_work (P := P) (w := w) (base := base) T
  exact (sds_cons (sd_if (EW.t (ew_or (et_not (et_val (ed_cb call_isi od_isi (by rfl) T.z_isinstance bt_isinstance (EAn.plain (ea_cons (v 1) (ea_cons (ed_c (pe_bltn (v := .ty "tuple") (by rfl) T.z_tuple bt_tuple rfl) fun _ _ _ _ _ => .ty _) ea_nil)))))) (ew_or1 (et_not (et_val (ed_cb (cr_all rfl) od_all (by rfl) T.z_all bt_all (EAn.plain (ea_cons (EN.d (en_lc (own := [("work", 2)]) (is := [2]) (by rfl) nd (id_seq (v 1)) (blkOk_by (N := ["book", "thing", "work"]) (sc := defScope s_is_row) (by decide +kernel)) (fun _ _ _ _ _ => (gn nd)) (fun _ _ _ _ _ => ep_nil) (fun _ _ _ _ _ => (ed_cal G_is_work (cc_is_work) (hr.mono (by decide)) (by rfl) T.m_is_work T.F_is_work.kp T.b_is_work takesN (EAn.plain (ea_cons (v 0) (ea_cons (v 2) ea_nil))))) (by decide))) ea_nil)))))))) (sds_one (sd_ret ed_bl)) sds_nil)
    (sds_one (sd_ret (ed_cmp (op_eqD hu) od_eq (ed_lenset (by rfl) T.z_len (by rfl) T.z_set rfl (EN.d (en_ct call_list_of od_list (by rfl) T.z_list bt_list (EAn.plain (ea_cons (v 1) ea_nil))))) (ed_cb call_len od_len (by rfl) T.z_len bt_len (EAn.plain (ea_cons (v 1) ea_nil))) (by first | exact nomark _ | rfl)))))
theorem ok_is_row (T : Txt K mg base c) : FnOk P w K mg base (L2.CX P w) 4 c.f_is_row c.fd_is_row ["book", "thing"] (sp_is_row K c) :=
  def_ok T.F_is_row sc_is_row (len_is_row c) (fun cdv A outer s H E hr => hb_is_row T cdv A outer s H E hr) (dw_is_row c)
theorem hb_is_order (T : Txt K mg base c) {f : Addr} (cdv : Value) (A : Around) (outer : List Env) (s : Shared) (H : Hp) (E : XK) (hr : Room 4 (A.deeper (envOfC "is_order" (defScope s_is_order) s.heap.objs.size f cdv))) :
    SDs (cxOf (L2.CX P w) P w K mg base ["book", "thing"] "is_order" (defScope s_is_order) f cdv A outer s H E) (TT c) (WE0 E) (defBody s_is_order) (w_is_order c) := by
  have nd := sc_is_order.nd
  have tk0 : Takes (cxOf (L2.CX P w) P w K mg base ["book", "thing"] "is_order" (defScope s_is_order) f cdv A outer s H E) (WE0 E) := takes_of rfl rfl rfl rfl
  have po0 : PassesOwn (model P w) (A.deeper (envOfC "is_order" (defScope s_is_order) s.heap.objs.size f cdv)) (envOfC "is_order" (defScope s_is_order) s.heap.objs.size f cdv) (cxOf (L2.CX P w) P w K mg base ["book", "thing"] "is_order" (defScope s_is_order) f cdv A outer s H E).xe := passes_of rfl
  have hu := hr.units
  have hu1 := hu_of hr
  have G_is_row := ok_is_row (P := P) (w := w) (base := base) T
  have G_many_of := ok_many_of (P := P) (w := w) (base := base) T
  exact (sds_one (sd_ret (ed_and (ed_cal G_is_row (cc_is_row) (hr.mono (by decide)) (by rfl) T.m_is_row T.F_is_row.kp T.b_is_row tk0 (EAn.plain (ea_cons (v 0) (ea_cons (v 1) ea_nil)))) (ed_one (ed_cmp (op_eqD hu) od_eq (ed_cb call_len od_len (by rfl) T.z_len bt_len (EAn.plain (ea_cons (v 1) ea_nil))) (ed_cal G_many_of (cc_many_of) (hr.mono (by decide)) (by rfl) T.m_many_of T.F_many_of.kp T.b_many_of tk0 (EAn.plain (ea_cons (v 0) ea_nil))) (by first | exact nomark _ | rfl))))))
theorem ok_is_order (T : Txt K mg base c) : FnOk P w K mg base (L2.CX P w) 5 c.f_is_order c.fd_is_order ["book", "thing"] (sp_is_order K c) :=
  def_ok T.F_is_order sc_is_order (len_is_order c) (fun cdv A outer s H E hr => hb_is_order T cdv A outer s H E hr) (dw_is_order c)
theorem hb_is_group (T : Txt K mg base c) {f : Addr} (cdv : Value) (A : Around) (outer : List Env) (s : Shared) (H : Hp) (E : XK) (hr : Room 4 (A.deeper (envOfC "is_group" (defScope s_is_group) s.heap.objs.size f cdv))) :
    SDs (cxOf (L2.CX P w) P w K mg base ["book", "thing"] "is_group" (defScope s_is_group) f cdv A outer s H E) (TT c) (WE0 E) (defBody s_is_group) (w_is_group c) := by
  have nd := sc_is_group.nd
  have tk0 : Takes (cxOf (L2.CX P w) P w K mg base ["book", "thing"] "is_group" (defScope s_is_group) f cdv A outer s H E) (WE0 E) := takes_of rfl rfl rfl rfl
  have po0 : PassesOwn (model P w) (A.deeper (envOfC "is_group" (defScope s_is_group) s.heap.objs.size f cdv)) (envOfC "is_group" (defScope s_is_group) s.heap.objs.size f cdv) (cxOf (L2.CX P w) P w K mg base ["book", "thing"] "is_group" (defScope s_is_group) f cdv A outer s H E).xe := passes_of rfl
  have hu := hr.units
  have hu1 := hu_of hr
  have G_are_ascending := ok_are_ascending (P := P) (w := w) (base := base) T
  have G_is_row := ok_is_row (P := P) (w := w) (base := base) T
  exact (sds_one (sd_ret (ed_and (ed_cal G_is_row (cc_is_row) (hr.mono (by decide)) (by rfl) T.m_is_row T.F_is_row.kp T.b_is_row tk0 (EAn.plain (ea_cons (v 0) (ea_cons (v 1) ea_nil)))) (ed_one (ed_cal G_are_ascending (cc_are_ascending) (hr.mono (by decide)) (by rfl) T.m_are_ascending T.F_are_ascending.kp T.b_are_ascending tk0 (EAn.plain (ea_cons (v 1) ea_nil)))))))
theorem ok_is_group (T : Txt K mg base c) : FnOk P w K mg base (L2.CX P w) 5 c.f_is_group c.fd_is_group ["book", "thing"] (sp_is_group K c) :=
  def_ok T.F_is_group sc_is_group (len_is_group c) (fun cdv A outer s H E hr => hb_is_group T cdv A outer s H E hr) (dw_is_group c)
theorem hb_check_order (T : Txt K mg base c) {f : Addr} (cdv : Value) (A : Around) (outer : List Env) (s : Shared) (H : Hp) (E : XK) (hr : Room 5 (A.deeper (envOfC "check_order" (defScope s_check_order) s.heap.objs.size f cdv))) :
    SDs (cxOf (L2.CX P w) P w K mg base ["book", "thing"] "check_order" (defScope s_check_order) f cdv A outer s H E) (TT c) (WE0 E) (defBody s_check_order) (w_check_order c) := by
  have nd := sc_check_order.nd
  have tk0 : Takes (cxOf (L2.CX P w) P w K mg base ["book", "thing"] "check_order" (defScope s_check_order) f cdv A outer s H E) (WE0 E) := takes_of rfl rfl rfl rfl
  have po0 : PassesOwn (model P w) (A.deeper (envOfC "check_order" (defScope s_check_order) s.heap.objs.size f cdv)) (envOfC "check_order" (defScope s_check_order) s.heap.objs.size f cdv) (cxOf (L2.CX P w) P w K mg base ["book", "thing"] "check_order" (defScope s_check_order) f cdv A outer s H E).xe := passes_of rfl
  have hu := hr.units
  have hu1 := hu_of hr
  have G_is_order := ok_is_order (P := P) (w := w) (base := base) T
  exact (sds_one (sd_if (et_not (et_val (ed_cal G_is_order (cc_is_order) (hr.mono (by decide)) (by rfl) T.m_is_order T.F_is_order.kp T.b_is_order tk0 (EAn.plain (ea_cons (v 0) (ea_cons (v 1) ea_nil)))))) (sds_one (sd_raise0 rfl tk0 (pmk_own0 PySem.F.excBase_ValueError T.x_NoOrder T.m_NoOrder T.q_NoOrder (raises_own T.s_NoOrder T.y_NoOrder) (by rfl)))) sds_nil))
theorem ok_check_order (T : Txt K mg base c) : FnOk P w K mg base (L2.CX P w) 6 c.f_check_order c.fd_check_order ["book", "thing"] (sp_check_order K c) :=
  def_ok T.F_check_order sc_check_order (len_check_order c) (fun cdv A outer s H E hr => hb_check_order T cdv A outer s H E hr) (dw_check_order c)
theorem hb_check_group (T : Txt K mg base c) {f : Addr} (cdv : Value) (A : Around) (outer : List Env) (s : Shared) (H : Hp) (E : XK) (hr : Room 5 (A.deeper (envOfC "check_group" (defScope s_check_group) s.heap.objs.size f cdv))) :
    SDs (cxOf (L2.CX P w) P w K mg base ["book", "thing"] "check_group" (defScope s_check_group) f cdv A outer s H E) (TT c) (WE0 E) (defBody s_check_group) (w_check_group c) := by
  have nd := sc_check_group.nd
  have tk0 : Takes (cxOf (L2.CX P w) P w K mg base ["book", "thing"] "check_group" (defScope s_check_group) f cdv A outer s H E) (WE0 E) := takes_of rfl rfl rfl rfl
  have po0 : PassesOwn (model P w) (A.deeper (envOfC "check_group" (defScope s_check_group) s.heap.objs.size f cdv)) (envOfC "check_group" (defScope s_check_group) s.heap.objs.size f cdv) (cxOf (L2.CX P w) P w K mg base ["book", "thing"] "check_group" (defScope s_check_group) f cdv A outer s H E).xe := passes_of rfl
  have hu := hr.units
  have hu1 := hu_of hr
  have G_is_group := ok_is_group (P := P) (w := w) (base := base) T
  exact (sds_one (sd_if (EW.t (ew_or (et_not (et_val (ed_cal G_is_group (cc_is_group) (hr.mono (by decide)) (by rfl) T.m_is_group T.F_is_group.kp T.b_is_group tk0 (EAn.plain (ea_cons (v 0) (ea_cons (v 1) ea_nil)))))) (ew_or1 (et_cmp (op_eqD hu) od_eq (ed_cb call_len od_len (by rfl) T.z_len bt_len (EAn.plain (ea_cons (v 1) ea_nil))) ed_int (by first | exact nomark _ | rfl))))) (sds_one (sd_raise0 rfl tk0 (pmk_own0 PySem.F.excBase_ValueError T.x_NoGroup T.m_NoGroup T.q_NoGroup (raises_own T.s_NoGroup T.y_NoGroup) (by rfl)))) sds_nil))
theorem ok_check_group (T : Txt K mg base c) : FnOk P w K mg base (L2.CX P w) 6 c.f_check_group c.fd_check_group ["book", "thing"] (sp_check_group K c) :=
  def_ok T.F_check_group sc_check_group (len_check_group c) (fun cdv A outer s H E hr => hb_check_group T cdv A outer s H E hr) (dw_check_group c)
theorem hb_part (T : Txt K mg base c) {f : Addr} (cdv : Value) (A : Around) (outer : List Env) (s : Shared) (H : Hp) (E : XK) (hr : Room 6 (A.deeper (envOfC "part" (defScope s_part) s.heap.objs.size f cdv))) :
    SDs (cxOf (L2.CX P w) P w K mg base ["book", "group", "work"] "part" (defScope s_part) f cdv A outer s H E) (TT c) (WE0 E) (defBody s_part) (w_part c) := by
  have nd := sc_part.nd
  have tk0 : Takes (cxOf (L2.CX P w) P w K mg base ["book", "group", "work"] "part" (defScope s_part) f cdv A outer s H E) (WE0 E) := takes_of rfl rfl rfl rfl
  have po0 : PassesOwn (model P w) (A.deeper (envOfC "part" (defScope s_part) s.heap.objs.size f cdv)) (envOfC "part" (defScope s_part) s.heap.objs.size f cdv) (cxOf (L2.CX P w) P w K mg base ["book", "group", "work"] "part" (defScope s_part) f cdv A outer s H E).xe := passes_of rfl
  have hu := hr.units
  have hu1 := hu_of hr
  have G_check_group := ok_check_group (P := P) (w := w) (base := base) T
  have G_raw_book := ok_raw_book (P := P) (w := w) (base := base) T
  exact (sds_cons (sd_expr (ed_cal G_check_group (cc_check_group) (hr.mono (by decide)) (by rfl) T.m_check_group T.F_check_group.kp T.b_check_group tk0 (EAn.plain (ea_cons (v 0) (ea_cons (v 1) ea_nil)))))
    (sds_one (sd_ret (ed_cal G_raw_book (cc_raw_book) (hr.mono (by decide)) (by rfl) T.m_raw_book T.F_raw_book.kp T.b_raw_book tk0 (EAn.plain (ea_cons (EN.d (en_lc (own := [("work", 2)]) (is := [2]) (by rfl) nd (id_seq (v 1)) (blkOk_by (N := ["book", "group", "work"]) (sc := defScope s_part) (by decide +kernel)) (fun _ _ _ _ _ => (gn nd)) (fun _ _ _ _ _ => ep_nil) (fun _ _ _ _ _ => (ed_ix ix_seq od_ix (ed_fld (mem2 T.k_Book T.n_Book_kept_windows T.k_RawBook T.n_RawBook_kept_windows) (v 0)) (v 2) (fun _ _ => rfl))) (by decide))) ea_nil))))))
theorem ok_part (T : Txt K mg base c) : FnOk P w K mg base (L2.CX P w) 7 c.f_part c.fd_part ["book", "group"] (sp_part K c) :=
  def_ok T.F_part sc_part (len_part c) (fun cdv A outer s H E hr => hb_part T cdv A outer s H E hr) (dw_part c)
theorem hb_shifted (T : Txt K mg base c) {f : Addr} (cdv : Value) (A : Around) (outer : List Env) (s : Shared) (H : Hp) (E : XK) (hr : Room 3 (A.deeper (envOfC "shifted" (defScope s_shifted) s.heap.objs.size f cdv))) :
    SDs (cxOf (L2.CX P w) P w K mg base ["book", "by", "first", "last"] "shifted" (defScope s_shifted) f cdv A outer s H E) (TT c) (WE0 E) (defBody s_shifted) (w_shifted c) := by
  have nd := sc_shifted.nd
  have tk0 : Takes (cxOf (L2.CX P w) P w K mg base ["book", "by", "first", "last"] "shifted" (defScope s_shifted) f cdv A outer s H E) (WE0 E) := takes_of rfl rfl rfl rfl
  have po0 : PassesOwn (model P w) (A.deeper (envOfC "shifted" (defScope s_shifted) s.heap.objs.size f cdv)) (envOfC "shifted" (defScope s_shifted) s.heap.objs.size f cdv) (cxOf (L2.CX P w) P w K mg base ["book", "by", "first", "last"] "shifted" (defScope s_shifted) f cdv A outer s H E).xe := passes_of rfl
  have hu := hr.units
  have hu1 := hu_of hr
  have G_is_integer := ok_is_integer (P := P) (w := w) (base := base) T
  have G_raw_book := ok_raw_book (P := P) (w := w) (base := base) T
  exact (sds_cons (sd_if (EW.t (ew_or (et_not (et_val (ed_cal G_is_integer (cc_is_integer) (hr.mono (by decide)) (by rfl) T.m_is_integer T.F_is_integer.kp T.b_is_integer tk0 (EAn.plain (ea_cons (v 1) ea_nil))))) (ew_or1 (et_val (ed_cb (cr_any rfl) od_anyB (by rfl) T.z_any bt_any (EAn.plain (ea_cons (EN.d (en_lc (own := [("first", 2), ("last", 3)]) (is := [2, 3]) (by rfl) nd (id_seq (ed_fld (mem2 T.k_Book T.n_Book_kept_windows T.k_RawBook T.n_RawBook_kept_windows) (v 0))) (blkOk_by (N := ["book", "by", "first", "last"]) (sc := defScope s_shifted) (by decide +kernel)) (fun _ _ _ _ _ => (gd_tup rfl (gds_cons (gn nd) (gds_cons (gn nd) gds_nil)))) (fun _ _ _ _ _ => ep_nil) (fun _ _ _ _ _ => (ed_cmp op_lt od_lt (ed_bin op_any od_add (v 2) (v 1)) ed_int (by first | exact nomark _ | rfl))) (by decide))) ea_nil))))))) (sds_one (sd_raise0 rfl tk0 (pmk_own0 PySem.F.excBase_ValueError T.x_NoNumber T.m_NoNumber T.q_NoNumber (raises_own T.s_NoNumber T.y_NoNumber) (by rfl)))) sds_nil)
    (sds_one (sd_ret (ed_cal G_raw_book (cc_raw_book) (hr.mono (by decide)) (by rfl) T.m_raw_book T.F_raw_book.kp T.b_raw_book tk0 (EAn.plain (ea_cons (EN.d (en_lc (own := [("first", 2), ("last", 3)]) (is := [2, 3]) (by rfl) nd (id_seq (ed_fld (mem2 T.k_Book T.n_Book_kept_windows T.k_RawBook T.n_RawBook_kept_windows) (v 0))) (blkOk_by (N := ["book", "by", "first", "last"]) (sc := defScope s_shifted) (by decide +kernel)) (fun _ _ _ _ _ => (gd_tup rfl (gds_cons (gn nd) (gds_cons (gn nd) gds_nil)))) (fun _ _ _ _ _ => ep_nil) (fun _ _ _ _ _ => (ed_tup (ea_cons (ed_bin op_any od_add (v 2) (v 1)) (ea_cons (ed_bin op_any od_add (v 3) (v 1)) ea_nil)))) (by decide))) ea_nil))))))
theorem ok_shifted (T : Txt K mg base c) : FnOk P w K mg base (L2.CX P w) 4 c.f_shifted c.fd_shifted ["book", "by"] (sp_shifted K c) :=
  def_ok T.F_shifted sc_shifted (len_shifted c) (fun cdv A outer s H E hr => hb_shifted T cdv A outer s H E hr) (dw_shifted c)
theorem hb_mirrored (T : Txt K mg base c) {f : Addr} (cdv : Value) (A : Around) (outer : List Env) (s : Shared) (H : Hp) (E : XK) (hr : Room 3 (A.deeper (envOfC "mirrored" (defScope s_mirrored) s.heap.objs.size f cdv))) :
    SDs (cxOf (L2.CX P w) P w K mg base ["book", "top", "first", "last"] "mirrored" (defScope s_mirrored) f cdv A outer s H E) (TT c) (WE0 E) (defBody s_mirrored) (w_mirrored c) := by
  have nd := sc_mirrored.nd
  have tk0 : Takes (cxOf (L2.CX P w) P w K mg base ["book", "top", "first", "last"] "mirrored" (defScope s_mirrored) f cdv A outer s H E) (WE0 E) := takes_of rfl rfl rfl rfl
  have po0 : PassesOwn (model P w) (A.deeper (envOfC "mirrored" (defScope s_mirrored) s.heap.objs.size f cdv)) (envOfC "mirrored" (defScope s_mirrored) s.heap.objs.size f cdv) (cxOf (L2.CX P w) P w K mg base ["book", "top", "first", "last"] "mirrored" (defScope s_mirrored) f cdv A outer s H E).xe := passes_of rfl
  have hu := hr.units
  have hu1 := hu_of hr
  have G_raw_book := ok_raw_book (P := P) (w := w) (base := base) T
  exact (sds_cons (ss nd (ed_cb (cr_max rfl) od_max1 (by rfl) T.z_max bt_max (EAn.plain (ea_cons (EN.d (en_lc (own := [("first", 2), ("last", 3)]) (is := [2, 3]) (by rfl) nd (id_seq (ed_fld (mem2 T.k_Book T.n_Book_kept_windows T.k_RawBook T.n_RawBook_kept_windows) (v 0))) (blkOk_by (N := ["book", "top", "first", "last"]) (sc := defScope s_mirrored) (by decide +kernel)) (fun _ _ _ _ _ => (gd_tup rfl (gds_cons (gn nd) (gds_cons (gn nd) gds_nil)))) (fun _ _ _ _ _ => ep_nil) (fun _ _ _ _ _ => (v 3)) (by decide))) ea_nil))))
    (sds_one (sd_ret (ed_cal G_raw_book (cc_raw_book) (hr.mono (by decide)) (by rfl) T.m_raw_book T.F_raw_book.kp T.b_raw_book tk0 (EAn.plain (ea_cons (EN.d (en_lc (own := [("first", 2), ("last", 3)]) (is := [2, 3]) (by rfl) nd (id_seq (ed_fld (mem2 T.k_Book T.n_Book_kept_windows T.k_RawBook T.n_RawBook_kept_windows) (v 0))) (blkOk_by (N := ["book", "top", "first", "last"]) (sc := defScope s_mirrored) (by decide +kernel)) (fun _ _ _ _ _ => (gd_tup rfl (gds_cons (gn nd) (gds_cons (gn nd) gds_nil)))) (fun _ _ _ _ _ => ep_nil) (fun _ _ _ _ _ => (ed_tup (ea_cons (ed_bin op_sub od_sub (v 1) (v 3)) (ea_cons (ed_bin op_sub od_sub (v 1) (v 2)) ea_nil)))) (by decide))) ea_nil))))))
theorem ok_mirrored (T : Txt K mg base c) : FnOk P w K mg base (L2.CX P w) 4 c.f_mirrored c.fd_mirrored ["book"] (sp_mirrored K c) :=
  def_ok T.F_mirrored sc_mirrored (len_mirrored c) (fun cdv A outer s H E hr => hb_mirrored T cdv A outer s H E hr) (dw_mirrored c)
theorem hb_widest_of (T : Txt K mg base c) {f : Addr} (cdv : Value) (A : Around) (outer : List Env) (s : Shared) (H : Hp) (E : XK) (hr : Room 2 (A.deeper (envOfC "widest_of" (defScope s_widest_of) s.heap.objs.size f (.ref c.cc_widest_of)))) :
    SDs (cxOf (L2.CX P w) P w K mg base ["book", "works", "early", "late", "best", "one", "other", "hours", "work"] "widest_of" (defScope s_widest_of) f (.ref c.cc_widest_of) A outer s H E) (TT c) (WE0 E) (defBody s_widest_of) (w_widest_of c) := by
  have nd := sc_widest_of.nd
  have tk0 : Takes (cxOf (L2.CX P w) P w K mg base ["book", "works", "early", "late", "best", "one", "other", "hours", "work"] "widest_of" (defScope s_widest_of) f (.ref c.cc_widest_of) A outer s H E) (WE0 E) := takes_of rfl rfl rfl rfl
  have po0 : PassesOwn (model P w) (A.deeper (envOfC "widest_of" (defScope s_widest_of) s.heap.objs.size f (.ref c.cc_widest_of))) (envOfC "widest_of" (defScope s_widest_of) s.heap.objs.size f (.ref c.cc_widest_of)) (cxOf (L2.CX P w) P w K mg base ["book", "works", "early", "late", "best", "one", "other", "hours", "work"] "widest_of" (defScope s_widest_of) f (.ref c.cc_widest_of) A outer s H E).xe := passes_of rfl
  have hu := hr.units
  have hu1 := hu_of hr
  have G_first_of := ok_first_of (P := P) (w := w) (base := base) T
  have G_last_of := ok_last_of (P := P) (w := w) (base := base) T
  exact (sds_cons (ss nd (ed_sl sl_any od_sl (EN.d (en_sortL (k := 1) (q := q_widest_of) (by rfl) T.z_sorted (v 1) rfl T.B_widest_of rfl (by simp [TT]) T.tu_widest_of (LamY.lamP_by (by show LamY.lamPB (defScope s_widest_of) _ _ = true; decide +kernel)) (by rfl) (fun _ _ _ _ _ _ => by rfl) nd rfl (hr.mono (by decide)) (fun _ _ _ _ hr2 => have hu := hr2.units; have hu1 := hu_of hr2; (ed_cal G_first_of (cc_first_of) (hr2.mono (by decide)) (by rfl) T.m_first_of T.F_first_of.kp T.b_first_of takesN (EAn.plain (ea_cons (v 0) (ea_cons (v 8) ea_nil))))))) eo_none (eo_some ed_int)))
    (sds_cons (ss nd (ed_sl sl_any od_sl (EN.d (en_sortL (k := 1) (q := q_widest_of) (by rfl) T.z_sorted (v 1) rfl T.B_widest_of rfl (by simp [TT]) T.tu_widest_of (LamY.lamP_by (by show LamY.lamPB (defScope s_widest_of) _ _ = true; decide +kernel)) (by rfl) (fun _ _ _ _ _ _ => by rfl) nd rfl (hr.mono (by decide)) (fun _ _ _ _ hr2 => have hu := hr2.units; have hu1 := hu_of hr2; (ed_un un_neg od_neg (ed_cal G_last_of (cc_last_of) (hr2.mono (by decide)) (by rfl) T.m_last_of T.F_last_of.kp T.b_last_of takesN (EAn.plain (ea_cons (v 0) (ea_cons (v 8) ea_nil)))))))) eo_none (eo_some ed_int)))
    (sds_cons (ss nd ed_non)
    (sds_cons (sd_for po0 rfl (id_seq (v 2)) (gn nd) (sds_one (sd_for po0 rfl (id_seq (v 3)) (gn nd) (sds_cons (ss nd (ed_bin op_sub od_sub (ed_cal G_last_of (cc_last_of) (hr.mono (by decide)) (by rfl) T.m_last_of T.F_last_of.kp T.b_last_of tk0 (EAn.plain (ea_cons (v 0) (ea_cons (v 6) ea_nil)))) (ed_cal G_first_of (cc_first_of) (hr.mono (by decide)) (by rfl) T.m_first_of T.F_first_of.kp T.b_first_of tk0 (EAn.plain (ea_cons (v 0) (ea_cons (v 5) ea_nil))))))
    (sds_one (sd_if (EW.t (ew_and (et_cmp (op_neD hu) od_ne (v 5) (v 6) (by first | exact nomark _ | rfl)) (ew_and1 (EW.t (ew_or (et_cmp op_isN od_is (v 4) ed_non (by first | exact nomark _ | rfl)) (ew_or1 (et_cmp op_gt od_gt (v 7) (ed_ix ix_seq od_ix (v 4) ed_int (fun _ _ => rfl)) (by first | exact nomark _ | rfl)))))))) (sds_one (ss nd (ed_tup (ea_cons (v 7) (ea_cons (v 5) (ea_cons (v 6) ea_nil)))))) sds_nil))))))
    (sds_one (sd_ret (v 4)))))))
theorem ok_widest_of (T : Txt K mg base c) : FnOk P w K mg base (L2.CX P w) 3 c.f_widest_of c.fd_widest_of ["book", "works"] (sp_widest_of K c) :=
  def_okC T.FC_widest_of sc_widest_of (len_widest_of c) (fun A outer s H E hr => hb_widest_of T .none A outer s H E hr) (dw_widest_of c)
theorem hb_worst_behind (T : Txt K mg base c) {f : Addr} (cdv : Value) (A : Around) (outer : List Env) (s : Shared) (H : Hp) (E : XK) (hr : Room 3 (A.deeper (envOfC "worst_behind" (defScope s_worst_behind) s.heap.objs.size f cdv))) :
    SDs (cxOf (L2.CX P w) P w K mg base ["book", "row", "best", "last", "place", "hours", "one", "other"] "worst_behind" (defScope s_worst_behind) f cdv A outer s H E) (TT c) (WE0 E) (defBody s_worst_behind) (w_worst_behind c) := by
  have nd := sc_worst_behind.nd
  have tk0 : Takes (cxOf (L2.CX P w) P w K mg base ["book", "row", "best", "last", "place", "hours", "one", "other"] "worst_behind" (defScope s_worst_behind) f cdv A outer s H E) (WE0 E) := takes_of rfl rfl rfl rfl
  have po0 : PassesOwn (model P w) (A.deeper (envOfC "worst_behind" (defScope s_worst_behind) s.heap.objs.size f cdv)) (envOfC "worst_behind" (defScope s_worst_behind) s.heap.objs.size f cdv) (cxOf (L2.CX P w) P w K mg base ["book", "row", "best", "last", "place", "hours", "one", "other"] "worst_behind" (defScope s_worst_behind) f cdv A outer s H E).xe := passes_of rfl
  have hu := hr.units
  have hu1 := hu_of hr
  have G_first_of := ok_first_of (P := P) (w := w) (base := base) T
  have G_last_of := ok_last_of (P := P) (w := w) (base := base) T
  have G_widest_of := ok_widest_of (P := P) (w := w) (base := base) T
  exact (sds_cons (ss nd (ed_tup (ea_cons ed_int (ea_cons (ed_tup ea_nil) ea_nil))))
    (sds_cons (ss nd (ed_ix ix_seq od_ix (v 1) (ed_un un_neg od_neg ed_int) (fun _ _ => rfl)))
    (sds_cons (sd_for po0 rfl (id_rng1 (pi_range1 (by rfl) T.z_range (EA.run (EAn.plain (ea_cons (ed_bin op_sub od_sub (ed_cb call_len od_len (by rfl) T.z_len bt_len (EAn.plain (ea_cons (v 1) ea_nil))) ed_int) ea_nil))))) (gn nd) (sds_cons (sd_asg (ed_cal G_widest_of (cc_widest_of) (hr.mono (by decide)) (by rfl) T.m_widest_of T.F_widest_of.kp T.b_widest_of tk0 (EAn.plain (ea_cons (v 0) (ea_cons (ed_sl sl_any od_sl (v 1) (eo_some (v 4)) eo_none) ea_nil)))) (gd_tup rfl (gds_cons (gn nd) (gds_cons (gn nd) (gds_cons (gn nd) gds_nil)))))
    (sds_cons (sa iop_add od_iadd nd (ed_bin op_sub od_sub (ed_cal G_first_of (cc_first_of) (hr.mono (by decide)) (by rfl) T.m_first_of T.F_first_of.kp T.b_first_of tk0 (EAn.plain (ea_cons (v 0) (ea_cons (ed_ix ix_seq od_ix (v 1) (v 4) (fun _ _ => rfl)) ea_nil)))) (ed_cal G_last_of (cc_last_of) (hr.mono (by decide)) (by rfl) T.m_last_of T.F_last_of.kp T.b_last_of tk0 (EAn.plain (ea_cons (v 0) (ea_cons (v 3) ea_nil))))))
    (sds_one (sd_if (et_cmp op_gt od_gt (v 5) (ed_ix ix_seq od_ix (v 2) ed_int (fun _ _ => rfl)) (by first | exact nomark _ | rfl)) (sds_one (ss nd (ed_tup (ea_cons (v 5) (ea_cons (ed_tup (ea_cons (ed_ix ix_seq od_ix (v 1) (v 4) (fun _ _ => rfl)) (ea_cons (v 3) (ea_cons (v 6) (ea_cons (v 7) ea_nil))))) ea_nil))))) sds_nil)))))
    (sds_one (sd_ret (v 2))))))
theorem ok_worst_behind (T : Txt K mg base c) : FnOk P w K mg base (L2.CX P w) 4 c.f_worst_behind c.fd_worst_behind ["book", "row"] (sp_worst_behind K c) :=
  def_ok T.F_worst_behind sc_worst_behind (len_worst_behind c) (fun cdv A outer s H E hr => hb_worst_behind T cdv A outer s H E hr) (dw_worst_behind c)
theorem hb_regret_in (T : Txt K mg base c) {f : Addr} (cdv : Value) (A : Around) (outer : List Env) (s : Shared) (H : Hp) (E : XK) (hr : Room 4 (A.deeper (envOfC "regret_in" (defScope s_regret_in) s.heap.objs.size f cdv))) :
    SDs (cxOf (L2.CX P w) P w K mg base ["book", "order", "best", "place", "found"] "regret_in" (defScope s_regret_in) f cdv A outer s H E) (TT c) (WE0 E) (defBody s_regret_in) (w_regret_in c) := by
  have nd := sc_regret_in.nd
  have tk0 : Takes (cxOf (L2.CX P w) P w K mg base ["book", "order", "best", "place", "found"] "regret_in" (defScope s_regret_in) f cdv A outer s H E) (WE0 E) := takes_of rfl rfl rfl rfl
  have po0 : PassesOwn (model P w) (A.deeper (envOfC "regret_in" (defScope s_regret_in) s.heap.objs.size f cdv)) (envOfC "regret_in" (defScope s_regret_in) s.heap.objs.size f cdv) (cxOf (L2.CX P w) P w K mg base ["book", "order", "best", "place", "found"] "regret_in" (defScope s_regret_in) f cdv A outer s H E).xe := passes_of rfl
  have hu := hr.units
  have hu1 := hu_of hr
  have G_worst_behind := ok_worst_behind (P := P) (w := w) (base := base) T
  exact (sds_cons (ss nd (ed_tup (ea_cons ed_int (ea_cons (ed_tup ea_nil) ea_nil))))
    (sds_cons (sd_for po0 rfl (id_rng2 (pi_range2 (by rfl) T.z_range (EA.run (EAn.plain (ea_cons ed_int (ea_cons (ed_cb call_len od_len (by rfl) T.z_len bt_len (EAn.plain (ea_cons (v 1) ea_nil))) ea_nil)))))) (gn nd) (sds_cons (ss nd (ed_cal G_worst_behind (cc_worst_behind) (hr.mono (by decide)) (by rfl) T.m_worst_behind T.F_worst_behind.kp T.b_worst_behind tk0 (EAn.plain (ea_cons (v 0) (ea_cons (ed_sl sl_any od_sl (v 1) eo_none (eo_some (ed_bin op_any od_add (v 3) ed_int))) ea_nil)))))
    (sds_one (sd_if (et_cmp op_gt od_gt (ed_ix ix_seq od_ix (v 4) ed_int (fun _ _ => rfl)) (ed_ix ix_seq od_ix (v 2) ed_int (fun _ _ => rfl)) (by first | exact nomark _ | rfl)) (sds_one (ss nd (v 4))) sds_nil))))
    (sds_one (sd_ret (v 2)))))
theorem ok_regret_in (T : Txt K mg base c) : FnOk P w K mg base (L2.CX P w) 5 c.f_regret_in c.fd_regret_in ["book", "order"] (sp_regret_in K c) :=
  def_ok T.F_regret_in sc_regret_in (len_regret_in c) (fun cdv A outer s H E hr => hb_regret_in T cdv A outer s H E hr) (dw_regret_in c)
theorem hb_regret (T : Txt K mg base c) {f : Addr} (cdv : Value) (A : Around) (outer : List Env) (s : Shared) (H : Hp) (E : XK) (hr : Room 6 (A.deeper (envOfC "regret" (defScope s_regret) s.heap.objs.size f cdv))) :
    SDs (cxOf (L2.CX P w) P w K mg base ["book", "order"] "regret" (defScope s_regret) f cdv A outer s H E) (TT c) (WE0 E) (defBody s_regret) (w_regret c) := by
  have nd := sc_regret.nd
  have tk0 : Takes (cxOf (L2.CX P w) P w K mg base ["book", "order"] "regret" (defScope s_regret) f cdv A outer s H E) (WE0 E) := takes_of rfl rfl rfl rfl
  have po0 : PassesOwn (model P w) (A.deeper (envOfC "regret" (defScope s_regret) s.heap.objs.size f cdv)) (envOfC "regret" (defScope s_regret) s.heap.objs.size f cdv) (cxOf (L2.CX P w) P w K mg base ["book", "order"] "regret" (defScope s_regret) f cdv A outer s H E).xe := passes_of rfl
  have hu := hr.units
  have hu1 := hu_of hr
  have G_check_order := ok_check_order (P := P) (w := w) (base := base) T
  have G_regret_in := ok_regret_in (P := P) (w := w) (base := base) T
  exact (sds_cons (sd_expr (ed_cal G_check_order (cc_check_order) (hr.mono (by decide)) (by rfl) T.m_check_order T.F_check_order.kp T.b_check_order tk0 (EAn.plain (ea_cons (v 0) (ea_cons (v 1) ea_nil)))))
    (sds_one (sd_ret (ed_ix ix_seq od_ix (ed_cal G_regret_in (cc_regret_in) (hr.mono (by decide)) (by rfl) T.m_regret_in T.F_regret_in.kp T.b_regret_in tk0 (EAn.plain (ea_cons (v 0) (ea_cons (v 1) ea_nil)))) ed_int (fun _ _ => rfl)))))
theorem ok_regret (T : Txt K mg base c) : FnOk P w K mg base (L2.CX P w) 7 c.f_regret c.fd_regret ["book", "order"] (sp_regret K c) :=
  def_ok T.F_regret sc_regret (len_regret c) (fun cdv A outer s H E hr => hb_regret T cdv A outer s H E hr) (dw_regret c)
theorem hb_L_law_pool (T : Txt K mg base c) {f : Addr} (cdv : Value) (A : Around) (outer : List Env) (s : Shared) (H : Hp) (E : XK) (hr : Room 0 (A.deeper (envOfC "_law_pool" (defScope s_L_law_pool) s.heap.objs.size f cdv))) :
    SDs (cxOf (L2.CX P w) P w K mg base ["_law_script", "_law_seed", "_law_cell"] "_law_pool" (defScope s_L_law_pool) f cdv A outer s H E) (TT c) (WE0 E) (defBody s_L_law_pool) (w_L_law_pool c) := by
  have nd := sc_L_law_pool.nd
  have tk0 : Takes (cxOf (L2.CX P w) P w K mg base ["_law_script", "_law_seed", "_law_cell"] "_law_pool" (defScope s_L_law_pool) f cdv A outer s H E) (WE0 E) := takes_of rfl rfl rfl rfl
  have po0 : PassesOwn (model P w) (A.deeper (envOfC "_law_pool" (defScope s_L_law_pool) s.heap.objs.size f cdv)) (envOfC "_law_pool" (defScope s_L_law_pool) s.heap.objs.size f cdv) (cxOf (L2.CX P w) P w K mg base ["_law_script", "_law_seed", "_law_cell"] "_law_pool" (defScope s_L_law_pool) f cdv A outer s H E).xe := passes_of rfl
  have hu := hr.units
  have hu1 := hu_of hr
  exact (sds_cons (ss nd (ed_bin op_any od_add (ed_bin op_any od_add (ed_bin op_modN od_mod (ed_ct call_int1 od_int (by rfl) T.z_int bt_int (EAn.plain (ea_cons (ed_cb (cr_sum rfl) od_sum (by rfl) T.z_sum bt_sum (EAn.plain (ea_cons (ed_sl sl_any od_sl (v 0) eo_none (eo_some ed_int)) ea_nil))) ea_nil))) ed_int) (ed_cb call_len od_len (by rfl) T.z_len bt_len (EAn.plain (ea_cons (v 0) ea_nil)))) ed_int))
    (sds_cons (sd_for po0 rfl (id_seq (ed_sl sl_any od_sl (v 0) eo_none (eo_some ed_int))) (gn nd) (sds_one (ss nd (ed_bin op_modN od_mod (ed_ct call_int1 od_int (by rfl) T.z_int bt_int (EAn.plain (ea_cons (ed_bin op_any od_add (ed_bin op_any od_add (ed_bin op_mul od_mul (v 1) ed_int) (ed_bin op_modN od_mod (ed_ct call_int1 od_int (by rfl) T.z_int bt_int (EAn.plain (ea_cons (v 2) ea_nil))) ed_int)) ed_int) ea_nil))) ed_int))))
    (sds_one (sd_retW (en_lst (ea_cons (v 1) (ea_cons ed_int (ea_consN (en_lc (own := [("_law_cell", 2)]) (is := [2]) (by rfl) nd (id_seq (ed_sl sl_any od_sl (v 0) eo_none (eo_some ed_int))) (blkOk_by (N := ["_law_script", "_law_seed", "_law_cell"]) (sc := defScope s_L_law_pool) (by decide +kernel)) (fun _ _ _ _ _ => (gn nd)) (fun _ _ _ _ _ => (ep_one (et_cmp op_ge od_ge (ed_cb call_abs od_abs (by rfl) T.z_abs bt_abs (EAn.plain (ea_cons (v 2) ea_nil))) (ed_bin op_pow od_pow ed_int ed_int) (by first | exact nomark _ | rfl)))) (fun _ _ _ _ _ => (ed_cb call_abs od_abs (by rfl) T.z_abs bt_abs (EAn.plain (ea_cons (v 2) ea_nil)))) (by decide)) ea_nil))))))))
theorem ok_L_law_pool (T : Txt K mg base c) : FnOk P w K mg base (L2.CX P w) 1 c.f_L_law_pool c.fd_L_law_pool ["_law_script"] (sp_L_law_pool K c) :=
  def_ok T.F_L_law_pool sc_L_law_pool (len_L_law_pool c) (fun cdv A outer s H E hr => hb_L_law_pool T cdv A outer s H E hr) (dw_L_law_pool c)
theorem hb_L_law_draw (T : Txt K mg base c) {f : Addr} (cdv : Value) (A : Around) (outer : List Env) (s : Shared) (H : Hp) (E : XK) (hr : Room 0 (A.deeper (envOfC "_law_draw" (defScope s_L_law_draw) s.heap.objs.size f cdv))) :
    SDs (cxOf (L2.CX P w) P w K mg base ["_law_pool_here", "_law_many", "_law_cells", "_law_mixed", "_law_digit"] "_law_draw" (defScope s_L_law_draw) f cdv A outer s H E) (TT c) (WE0 E) (defBody s_L_law_draw) (w_L_law_draw c) := by
  have nd := sc_L_law_draw.nd
  have tk0 : Takes (cxOf (L2.CX P w) P w K mg base ["_law_pool_here", "_law_many", "_law_cells", "_law_mixed", "_law_digit"] "_law_draw" (defScope s_L_law_draw) f cdv A outer s H E) (WE0 E) := takes_of rfl rfl rfl rfl
  have po0 : PassesOwn (model P w) (A.deeper (envOfC "_law_draw" (defScope s_L_law_draw) s.heap.objs.size f cdv)) (envOfC "_law_draw" (defScope s_L_law_draw) s.heap.objs.size f cdv) (cxOf (L2.CX P w) P w K mg base ["_law_pool_here", "_law_many", "_law_cells", "_law_mixed", "_law_digit"] "_law_draw" (defScope s_L_law_draw) f cdv A outer s H E).xe := passes_of rfl
  have hu := hr.units
  have hu1 := hu_of hr
  exact (sds_cons (sd_setIx (v 0) ed_int (ed_bin op_any od_add (ed_ix ix_seq od_ix (v 0) ed_int (fun _ _ => rfl)) ed_int) (fun _ _ _ h1 h2 h3 => ps_asg h1 (pg_sub h2 h3 set_list)))
    (sds_cons (ss nd (ed_ix ix_seq od_ix (v 0) ed_int (fun _ _ => rfl)))
    (sds_cons (sd_if (et_cmp op_gt od_gt (ed_cb call_len od_len (by rfl) T.z_len bt_len (EAn.plain (ea_cons (v 2) ea_nil))) ed_int (by first | exact nomark _ | rfl)) (sds_cons (ss nd (ed_bin op_modN od_mod (ed_ct call_int1 od_int (by rfl) T.z_int bt_int (EAn.plain (ea_cons (ed_ix ix_seq od_ix (v 2) ed_int (fun _ _ => rfl)) ea_nil))) (v 1)))
    (sds_cons (sd_setIx (v 2) ed_int (ed_bin op_fdivN od_div (ed_ct call_int1 od_int (by rfl) T.z_int bt_int (EAn.plain (ea_cons (ed_ix ix_seq od_ix (v 2) ed_int (fun _ _ => rfl)) ea_nil))) (v 1)) (fun _ _ _ h1 h2 h3 => ps_asg h1 (pg_sub h2 h3 set_list)))
    (sds_cons (sd_if (et_cmp (op_eqD hu) od_eq (ed_ix ix_seq od_ix (v 2) ed_int (fun _ _ => rfl)) ed_int (by first | exact nomark _ | rfl)) (sds_one (sd_expr (ed_pop (v 2) ed_int (fun _ _ h1 h2 => pe_bm PySem.F.plainAttrs_list PySem.F.slot_list_pop PySem.F.type_list_pop mt_popAt h1 h2)))) sds_nil)
    (sds_one (sd_ret (v 4)))))) sds_nil)
    (sds_cons (ss nd (ed_bin op_modN od_mod (ed_ct call_int1 od_int (by rfl) T.z_int bt_int (EAn.plain (ea_cons (ed_bin op_mul od_mul (ed_bin op_any od_add (ed_ix ix_seq od_ix (v 0) ed_int (fun _ _ => rfl)) (ed_bin op_mul od_mul ed_int (ed_ix ix_seq od_ix (v 0) ed_int (fun _ _ => rfl)))) ed_int) ea_nil))) ed_int))
    (sds_cons (ss nd (ed_bin op_modN od_mod (ed_ct call_int1 od_int (by rfl) T.z_int bt_int (EAn.plain (ea_cons (ed_bin op_mul od_mul (v 3) (ed_bin op_any od_add (ed_bin op_fdivN od_div (v 3) ed_int) ed_int)) ea_nil))) ed_int))
    (sds_cons (ss nd (ed_bin op_modN od_mod (ed_ct call_int1 od_int (by rfl) T.z_int bt_int (EAn.plain (ea_cons (ed_bin op_mul od_mul (v 3) (ed_bin op_any od_add (ed_bin op_fdivN od_div (v 3) ed_int) ed_int)) ea_nil))) ed_int))
    (sds_one (sd_ret (ed_bin op_modN od_mod (ed_ct call_int1 od_int (by rfl) T.z_int bt_int (EAn.plain (ea_cons (ed_bin op_fdivN od_div (v 3) ed_int) ea_nil))) (v 1))))))))))
theorem ok_L_law_draw (T : Txt K mg base c) : FnOk P w K mg base (L2.CX P w) 1 c.f_L_law_draw c.fd_L_law_draw ["_law_pool_here", "_law_many"] (sp_L_law_draw K c) :=
  def_ok T.F_L_law_draw sc_L_law_draw (len_L_law_draw c) (fun cdv A outer s H E hr => hb_L_law_draw T cdv A outer s H E hr) (dw_L_law_draw c)
theorem hb_L_law_windows (T : Txt K mg base c) {f : Addr} (cdv : Value) (A : Around) (outer : List Env) (s : Shared) (H : Hp) (E : XK) (hr : Room 1 (A.deeper (envOfC "_law_windows" (defScope s_L_law_windows) s.heap.objs.size f cdv))) :
    SDs (cxOf (L2.CX P w) P w K mg base ["_law_pool_here", "_law_many", "_law_top", "_law_kind", "_law_found", "_law_middle", "_law_k", "_law_one", "_law_other"] "_law_windows" (defScope s_L_law_windows) f cdv A outer s H E) (TT c) (WE0 E) (defBody s_L_law_windows) (w_L_law_windows c) := by
  have nd := sc_L_law_windows.nd
  have tk0 : Takes (cxOf (L2.CX P w) P w K mg base ["_law_pool_here", "_law_many", "_law_top", "_law_kind", "_law_found", "_law_middle", "_law_k", "_law_one", "_law_other"] "_law_windows" (defScope s_L_law_windows) f cdv A outer s H E) (WE0 E) := takes_of rfl rfl rfl rfl
  have po0 : PassesOwn (model P w) (A.deeper (envOfC "_law_windows" (defScope s_L_law_windows) s.heap.objs.size f cdv)) (envOfC "_law_windows" (defScope s_L_law_windows) s.heap.objs.size f cdv) (cxOf (L2.CX P w) P w K mg base ["_law_pool_here", "_law_many", "_law_top", "_law_kind", "_law_found", "_law_middle", "_law_k", "_law_one", "_law_other"] "_law_windows" (defScope s_L_law_windows) f cdv A outer s H E).xe := passes_of rfl
  have hu := hr.units
  have hu1 := hu_of hr
  have G_L_law_draw := ok_L_law_draw (P := P) (w := w) (base := base) T
  exact (sds_cons (ss nd (ed_cal G_L_law_draw (cc_L_law_draw) (hr.mono (by decide)) (by rfl) T.m_L_law_draw T.F_L_law_draw.kp T.b_L_law_draw tk0 (EAn.plain (ea_cons (v 0) (ea_cons ed_int ea_nil)))))
    (sds_cons (sn nd (en_lst ea_nil))
    (sds_cons (ss nd (ed_bin op_any od_add (v 2) (ed_cal G_L_law_draw (cc_L_law_draw) (hr.mono (by decide)) (by rfl) T.m_L_law_draw T.F_L_law_draw.kp T.b_L_law_draw tk0 (EAn.plain (ea_cons (v 0) (ea_cons (ed_bin op_any od_add (v 2) ed_int) ea_nil))))))
    (sds_cons (sd_for po0 rfl (id_rng1 (pi_range1 (by rfl) T.z_range (EA.run (EAn.plain (ea_cons (v 1) ea_nil))))) (gn nd) (sds_cons (ss nd (ed_cal G_L_law_draw (cc_L_law_draw) (hr.mono (by decide)) (by rfl) T.m_L_law_draw T.F_L_law_draw.kp T.b_L_law_draw tk0 (EAn.plain (ea_cons (v 0) (ea_cons (ed_bin op_any od_add (v 2) ed_int) ea_nil)))))
    (sds_cons (ss nd (ed_cal G_L_law_draw (cc_L_law_draw) (hr.mono (by decide)) (by rfl) T.m_L_law_draw T.F_L_law_draw.kp T.b_L_law_draw tk0 (EAn.plain (ea_cons (v 0) (ea_cons (ed_bin op_any od_add (v 2) ed_int) ea_nil)))))
    (sds_cons (sd_if (EW.t (ew_and (et_cmp (op_eqD hu) od_eq (v 3) ed_int (by first | exact nomark _ | rfl)) (ew_and1 (et_cmp op_gt od_gt (ed_cal G_L_law_draw (cc_L_law_draw) (hr.mono (by decide)) (by rfl) T.m_L_law_draw T.F_L_law_draw.kp T.b_L_law_draw tk0 (EAn.plain (ea_cons (v 0) (ea_cons ed_int ea_nil)))) ed_int (by first | exact nomark _ | rfl))))) (sds_cons (ss nd (ed_cal G_L_law_draw (cc_L_law_draw) (hr.mono (by decide)) (by rfl) T.m_L_law_draw T.F_L_law_draw.kp T.b_L_law_draw tk0 (EAn.plain (ea_cons (v 0) (ea_cons (ed_bin op_any od_add (ed_bin op_fdivN od_div (v 5) ed_int) ed_int) ea_nil)))))
    (sds_one (ss nd (ed_bin op_sub od_sub (v 5) (v 7))))) sds_nil)
    (sds_cons (sd_if (et_cmp (op_eqD hu) od_eq (v 3) ed_int (by first | exact nomark _ | rfl)) (sds_cons (ss nd (ed_bin op_any od_add (v 6) (ed_cal G_L_law_draw (cc_L_law_draw) (hr.mono (by decide)) (by rfl) T.m_L_law_draw T.F_L_law_draw.kp T.b_L_law_draw tk0 (EAn.plain (ea_cons (v 0) (ea_cons ed_int ea_nil))))))
    (sds_one (ss nd (ed_bin op_any od_add (ed_bin op_any od_add (v 7) ed_int) (ed_cal G_L_law_draw (cc_L_law_draw) (hr.mono (by decide)) (by rfl) T.m_L_law_draw T.F_L_law_draw.kp T.b_L_law_draw tk0 (EAn.plain (ea_cons (v 0) (ea_cons ed_int ea_nil)))))))) sds_nil)
    (sds_one (sd_expr (ed_app (v 4) (ed_tup (ea_cons (ed_cb (call_min2 rfl) od_int2 (by rfl) T.z_min bt_min (EAn.plain (ea_cons (v 7) (ea_cons (v 8) ea_nil)))) (ea_cons (ed_cb (call_max2 rfl) od_int2 (by rfl) T.z_max bt_max (EAn.plain (ea_cons (v 7) (ea_cons (v 8) ea_nil)))) ea_nil))) (fun _ _ h1 h2 => pe_bm PySem.F.plainAttrs_list PySem.F.slot_list_append PySem.F.type_list_append mt_append h1 h2)))))))))
    (sds_one (sd_ret (ed_ct call_tuple_of od_tuple (by rfl) T.z_tuple bt_tuple (EAn.plain (ea_cons (v 4) ea_nil)))))))))
theorem ok_L_law_windows (T : Txt K mg base c) : FnOk P w K mg base (L2.CX P w) 2 c.f_L_law_windows c.fd_L_law_windows ["_law_pool_here", "_law_many", "_law_top"] (sp_L_law_windows K c) :=
  def_ok T.F_L_law_windows sc_L_law_windows (len_L_law_windows c) (fun cdv A outer s H E hr => hb_L_law_windows T cdv A outer s H E hr) (dw_L_law_windows c)
theorem hb_L_law_row (T : Txt K mg base c) {f : Addr} (cdv : Value) (A : Around) (outer : List Env) (s : Shared) (H : Hp) (E : XK) (hr : Room 1 (A.deeper (envOfC "_law_row" (defScope s_L_law_row) s.heap.objs.size f cdv))) :
    SDs (cxOf (L2.CX P w) P w K mg base ["_law_pool_here", "_law_works", "_law_left", "_law_k"] "_law_row" (defScope s_L_law_row) f cdv A outer s H E) (TT c) (WE0 E) (defBody s_L_law_row) (w_L_law_row c) := by
  have nd := sc_L_law_row.nd
  have tk0 : Takes (cxOf (L2.CX P w) P w K mg base ["_law_pool_here", "_law_works", "_law_left", "_law_k"] "_law_row" (defScope s_L_law_row) f cdv A outer s H E) (WE0 E) := takes_of rfl rfl rfl rfl
  have po0 : PassesOwn (model P w) (A.deeper (envOfC "_law_row" (defScope s_L_law_row) s.heap.objs.size f cdv)) (envOfC "_law_row" (defScope s_L_law_row) s.heap.objs.size f cdv) (cxOf (L2.CX P w) P w K mg base ["_law_pool_here", "_law_works", "_law_left", "_law_k"] "_law_row" (defScope s_L_law_row) f cdv A outer s H E).xe := passes_of rfl
  have hu := hr.units
  have hu1 := hu_of hr
  have G_L_law_draw := ok_L_law_draw (P := P) (w := w) (base := base) T
  exact (sds_cons (sn nd (en_ct call_list_of od_list (by rfl) T.z_list bt_list (EAn.plain (ea_cons (v 1) ea_nil))))
    (sds_one (sd_ret (ed_ct call_tuple_of od_tuple (by rfl) T.z_tuple bt_tuple (EAn.plain (ea_cons (EN.d (en_lc (own := [("_law_k", 3)]) (is := [3]) (by rfl) nd (id_rng1 (pi_range1 (by rfl) T.z_range (EA.run (EAn.plain (ea_cons (ed_cb call_len od_len (by rfl) T.z_len bt_len (EAn.plain (ea_cons (v 1) ea_nil))) ea_nil))))) (blkOk_by (N := ["_law_pool_here", "_law_works", "_law_left", "_law_k"]) (sc := defScope s_L_law_row) (by decide +kernel)) (fun _ _ _ _ _ => (gn nd)) (fun _ _ _ _ _ => ep_nil) (fun _ _ _ _ _ => (ed_pop (v 2) (ed_cal G_L_law_draw (cc_L_law_draw) (hr.mono (by decide)) (by rfl) T.m_L_law_draw T.F_L_law_draw.kp T.b_L_law_draw takesN (EAn.plain (ea_cons (v 0) (ea_cons (ed_cb call_len od_len (by rfl) T.z_len bt_len (EAn.plain (ea_cons (v 2) ea_nil))) ea_nil)))) (fun _ _ h1 h2 => pe_bm PySem.F.plainAttrs_list PySem.F.slot_list_pop PySem.F.type_list_pop mt_popAt h1 h2))) (by decide))) ea_nil))))))
theorem ok_L_law_row (T : Txt K mg base c) : FnOk P w K mg base (L2.CX P w) 2 c.f_L_law_row c.fd_L_law_row ["_law_pool_here", "_law_works"] (sp_L_law_row K c) :=
  def_ok T.F_L_law_row sc_L_law_row (len_L_law_row c) (fun cdv A outer s H E hr => hb_L_law_row T cdv A outer s H E hr) (dw_L_law_row c)
theorem hb_L_law_some (T : Txt K mg base c) {f : Addr} (cdv : Value) (A : Around) (outer : List Env) (s : Shared) (H : Hp) (E : XK) (hr : Room 1 (A.deeper (envOfC "_law_some" (defScope s_L_law_some) s.heap.objs.size f cdv))) :
    SDs (cxOf (L2.CX P w) P w K mg base ["_law_pool_here", "_law_many", "_law_of", "_law_work"] "_law_some" (defScope s_L_law_some) f cdv A outer s H E) (TT c) (WE0 E) (defBody s_L_law_some) (w_L_law_some c) := by
  have nd := sc_L_law_some.nd
  have tk0 : Takes (cxOf (L2.CX P w) P w K mg base ["_law_pool_here", "_law_many", "_law_of", "_law_work"] "_law_some" (defScope s_L_law_some) f cdv A outer s H E) (WE0 E) := takes_of rfl rfl rfl rfl
  have po0 : PassesOwn (model P w) (A.deeper (envOfC "_law_some" (defScope s_L_law_some) s.heap.objs.size f cdv)) (envOfC "_law_some" (defScope s_L_law_some) s.heap.objs.size f cdv) (cxOf (L2.CX P w) P w K mg base ["_law_pool_here", "_law_many", "_law_of", "_law_work"] "_law_some" (defScope s_L_law_some) f cdv A outer s H E).xe := passes_of rfl
  have hu := hr.units
  have hu1 := hu_of hr
  have G_L_law_draw := ok_L_law_draw (P := P) (w := w) (base := base) T
  exact (sds_cons (ss nd (ed_ix ix_seq od_ix (EN.d (en_lst (ea_cons ed_int (ea_cons ed_int (ea_cons ed_int ea_nil))))) (ed_cal G_L_law_draw (cc_L_law_draw) (hr.mono (by decide)) (by rfl) T.m_L_law_draw T.F_L_law_draw.kp T.b_L_law_draw tk0 (EAn.plain (ea_cons (v 0) (ea_cons ed_int ea_nil)))) (fun _ _ => rfl)))
    (sds_one (sd_ret (ed_ct call_tupX od_tupX (by rfl) T.z_tuple bt_tuple (EAn.plain (ea_cons (EN.d (en_lc (own := [("_law_work", 3)]) (is := [3]) (by rfl) nd (id_rng1 (pi_range1 (by rfl) T.z_range (EA.run (EAn.plain (ea_cons (v 1) ea_nil))))) (blkOk_by (N := ["_law_pool_here", "_law_many", "_law_of", "_law_work"]) (sc := defScope s_L_law_some) (by decide +kernel)) (fun _ _ _ _ _ => (gn nd)) (fun _ _ _ _ _ => (ep_one (et_cmp op_gt od_gt (ed_cal G_L_law_draw (cc_L_law_draw) (hr.mono (by decide)) (by rfl) T.m_L_law_draw T.F_L_law_draw.kp T.b_L_law_draw takesN (EAn.plain (ea_cons (v 0) (ea_cons (ed_bin op_any od_add (v 2) ed_int) ea_nil)))) ed_int (by first | exact nomark _ | rfl)))) (fun _ _ _ _ _ => (v 3)) (by decide))) ea_nil))))))
theorem ok_L_law_some (T : Txt K mg base c) : FnOk P w K mg base (L2.CX P w) 2 c.f_L_law_some c.fd_L_law_some ["_law_pool_here", "_law_many"] (sp_L_law_some K c) :=
  def_ok T.F_L_law_some sc_L_law_some (len_L_law_some c) (fun cdv A outer s H E hr => hb_L_law_some T cdv A outer s H E hr) (dw_L_law_some c)
theorem hb_L_law_is_int (T : Txt K mg base c) {f : Addr} (cdv : Value) (A : Around) (outer : List Env) (s : Shared) (H : Hp) (E : XK) (hr : Room 0 (A.deeper (envOfC "_law_is_int" (defScope s_L_law_is_int) s.heap.objs.size f cdv))) :
    SDs (cxOf (L2.CX P w) P w K mg base ["_law_thing"] "_law_is_int" (defScope s_L_law_is_int) f cdv A outer s H E) (TT c) (WE0 E) (defBody s_L_law_is_int) (w_L_law_is_int c) := by
  have nd := sc_L_law_is_int.nd
  have tk0 : Takes (cxOf (L2.CX P w) P w K mg base ["_law_thing"] "_law_is_int" (defScope s_L_law_is_int) f cdv A outer s H E) (WE0 E) := takes_of rfl rfl rfl rfl
  have po0 : PassesOwn (model P w) (A.deeper (envOfC "_law_is_int" (defScope s_L_law_is_int) s.heap.objs.size f cdv)) (envOfC "_law_is_int" (defScope s_L_law_is_int) s.heap.objs.size f cdv) (cxOf (L2.CX P w) P w K mg base ["_law_thing"] "_law_is_int" (defScope s_L_law_is_int) f cdv A outer s H E).xe := passes_of rfl
  have hu := hr.units
  have hu1 := hu_of hr
  exact (sds_one (sd_ret (ed_and (ed_cb call_isi od_isi (by rfl) T.z_isinstance bt_isinstance (EAn.plain (ea_cons (v 0) (ea_cons (ed_c (pe_bltn (v := .ty "int") (by rfl) T.z_int bt_int rfl) fun _ _ _ _ _ => .ty _) ea_nil)))) (ed_one (ed_not (ed_cb call_isi od_isi (by rfl) T.z_isinstance bt_isinstance (EAn.plain (ea_cons (v 0) (ea_cons (ed_c (pe_bltn (v := .ty "bool") (by rfl) T.z_bool bt_bool rfl) fun _ _ _ _ _ => .ty _) ea_nil)))))))))
theorem ok_L_law_is_int (T : Txt K mg base c) : FnOk P w K mg base (L2.CX P w) 1 c.f_L_law_is_int c.fd_L_law_is_int ["_law_thing"] (sp_L_law_is_int K c) :=
  def_ok T.F_L_law_is_int sc_L_law_is_int (len_L_law_is_int c) (fun cdv A outer s H E hr => hb_L_law_is_int T cdv A outer s H E hr) (dw_L_law_is_int c)
theorem hb_L_law_regret (T : Txt K mg base c) {f : Addr} (cdv : Value) (A : Around) (outer : List Env) (s : Shared) (H : Hp) (E : XK) (hr : Room 0 (A.deeper (envOfC "_law_regret" (defScope s_L_law_regret) s.heap.objs.size f cdv))) :
    SDs (cxOf (L2.CX P w) P w K mg base ["_law_windows_here", "_law_order_here", "_law_best", "_law_begin", "_law_end", "_law_works", "_law_edge", "_law_one", "_law_other"] "_law_regret" (defScope s_L_law_regret) f cdv A outer s H E) (TT c) (WE0 E) (defBody s_L_law_regret) (w_L_law_regret c) := by
  have nd := sc_L_law_regret.nd
  have tk0 : Takes (cxOf (L2.CX P w) P w K mg base ["_law_windows_here", "_law_order_here", "_law_best", "_law_begin", "_law_end", "_law_works", "_law_edge", "_law_one", "_law_other"] "_law_regret" (defScope s_L_law_regret) f cdv A outer s H E) (WE0 E) := takes_of rfl rfl rfl rfl
  have po0 : PassesOwn (model P w) (A.deeper (envOfC "_law_regret" (defScope s_L_law_regret) s.heap.objs.size f cdv)) (envOfC "_law_regret" (defScope s_L_law_regret) s.heap.objs.size f cdv) (cxOf (L2.CX P w) P w K mg base ["_law_windows_here", "_law_order_here", "_law_best", "_law_begin", "_law_end", "_law_works", "_law_edge", "_law_one", "_law_other"] "_law_regret" (defScope s_L_law_regret) f cdv A outer s H E).xe := passes_of rfl
  have hu := hr.units
  have hu1 := hu_of hr
  exact (sds_cons (ss nd ed_int)
    (sds_cons (sd_for po0 rfl (id_rng1 (pi_range1 (by rfl) T.z_range (EA.run (EAn.plain (ea_cons (ed_cb call_len od_len (by rfl) T.z_len bt_len (EAn.plain (ea_cons (v 1) ea_nil))) ea_nil))))) (gn nd) (sds_one (sd_for po0 rfl (id_rng2 (pi_range2 (by rfl) T.z_range (EA.run (EAn.plain (ea_cons (ed_bin op_any od_add (v 3) ed_int) (ea_cons (ed_cb call_len od_len (by rfl) T.z_len bt_len (EAn.plain (ea_cons (v 1) ea_nil))) ea_nil)))))) (gn nd) (sds_cons (ss nd (ed_sl sl_any od_sl (v 1) (eo_some (v 3)) (eo_some (ed_bin op_any od_add (v 4) ed_int))))
    (sds_cons (ss nd (ed_bin op_sub od_sub (ed_ix ix_seq od_ix (ed_ix ix_seq od_ix (v 0) (ed_ix ix_seq od_ix (v 1) (v 3) (fun _ _ => rfl)) (fun _ _ => rfl)) ed_int (fun _ _ => rfl)) (ed_ix ix_seq od_ix (ed_ix ix_seq od_ix (v 0) (ed_ix ix_seq od_ix (v 1) (v 4) (fun _ _ => rfl)) (fun _ _ => rfl)) ed_int (fun _ _ => rfl))))
    (sds_one (sd_for po0 rfl (id_seq (v 5)) (gn nd) (sds_one (sd_for po0 rfl (id_seq (v 5)) (gn nd) (sds_one (sd_if (et_cmp (op_neD hu) od_ne (v 7) (v 8) (by first | exact nomark _ | rfl)) (sds_one (ss nd (ed_cb (call_max2 rfl) od_int2 (by rfl) T.z_max bt_max (EAn.plain (ea_cons (v 2) (ea_cons (ed_bin op_any od_add (ed_bin op_sub od_sub (v 6) (ed_ix ix_seq od_ix (ed_ix ix_seq od_ix (v 0) (v 7) (fun _ _ => rfl)) ed_int (fun _ _ => rfl))) (ed_ix ix_seq od_ix (ed_ix ix_seq od_ix (v 0) (v 8) (fun _ _ => rfl)) ed_int (fun _ _ => rfl))) ea_nil)))))) sds_nil)))))))))))
    (sds_one (sd_ret (v 2)))))
theorem ok_L_law_regret (T : Txt K mg base c) : FnOk P w K mg base (L2.CX P w) 1 c.f_L_law_regret c.fd_L_law_regret ["_law_windows_here", "_law_order_here"] (sp_L_law_regret K c) :=
  def_ok T.F_L_law_regret sc_L_law_regret (len_L_law_regret c) (fun cdv A outer s H E hr => hb_L_law_regret T cdv A outer s H E hr) (dw_L_law_regret c)
theorem hb_L_law_right (T : Txt K mg base c) {f : Addr} (cdv : Value) (A : Around) (outer : List Env) (s : Shared) (H : Hp) (E : XK) (hr : Room 7 (A.deeper (envOfC "_law_right" (defScope s_L_law_right) s.heap.objs.size f cdv))) :
    SDs (cxOf (L2.CX P w) P w K mg base ["_law_book", "_law_order_here", "_law_due", "_law_told"] "_law_right" (defScope s_L_law_right) f cdv A outer s H E) (TT c) (WE0 E) (defBody s_L_law_right) (w_L_law_right c) := by
  have nd := sc_L_law_right.nd
  have tk0 : Takes (cxOf (L2.CX P w) P w K mg base ["_law_book", "_law_order_here", "_law_due", "_law_told"] "_law_right" (defScope s_L_law_right) f cdv A outer s H E) (WE0 E) := takes_of rfl rfl rfl rfl
  have po0 : PassesOwn (model P w) (A.deeper (envOfC "_law_right" (defScope s_L_law_right) s.heap.objs.size f cdv)) (envOfC "_law_right" (defScope s_L_law_right) s.heap.objs.size f cdv) (cxOf (L2.CX P w) P w K mg base ["_law_book", "_law_order_here", "_law_due", "_law_told"] "_law_right" (defScope s_L_law_right) f cdv A outer s H E).xe := passes_of rfl
  have hu := hr.units
  have hu1 := hu_of hr
  have G_L_law_is_int := ok_L_law_is_int (P := P) (w := w) (base := base) T
  have G_regret := ok_regret (P := P) (w := w) (base := base) T
  exact (sds_cons (ss nd (ed_cal G_regret (cc_regret) (hr.mono (by decide)) (by rfl) T.m_regret T.F_regret.kp T.b_regret tk0 (EAn.plain (ea_cons (v 0) (ea_cons (v 1) ea_nil)))))
    (sds_one (sd_ret (ed_and (ed_cal G_L_law_is_int (cc_L_law_is_int) (hr.mono (by decide)) (by rfl) T.m_L_law_is_int T.F_L_law_is_int.kp T.b_L_law_is_int tk0 (EAn.plain (ea_cons (v 3) ea_nil))) (ed_one (ed_cmp (op_eqD hu) od_eq (v 3) (v 2) (by first | exact nomark _ | rfl)))))))
theorem ok_L_law_right (T : Txt K mg base c) : FnOk P w K mg base (L2.CX P w) 8 c.f_L_law_right c.fd_L_law_right ["_law_book", "_law_order_here", "_law_due"] (sp_L_law_right K c) :=
  def_ok T.F_L_law_right sc_L_law_right (len_L_law_right c) (fun cdv A outer s H E hr => hb_L_law_right T cdv A outer s H E hr) (dw_L_law_right c)
theorem hb_L_law_order (T : Txt K mg base c) {f : Addr} (cdv : Value) (A : Around) (outer : List Env) (s : Shared) (H : Hp) (E : XK) (hr : Room 2 (A.deeper (envOfC "_law_order" (defScope s_L_law_order) s.heap.objs.size f (.ref c.cc_L_law_order)))) :
    SDs (cxOf (L2.CX P w) P w K mg base ["_law_pool_here", "_law_windows_here", "_law_row_here", "_law_work"] "_law_order" (defScope s_L_law_order) f (.ref c.cc_L_law_order) A outer s H E) (TT c) (WE0 E) (defBody s_L_law_order) (w_L_law_order c) := by
  have nd := sc_L_law_order.nd
  have tk0 : Takes (cxOf (L2.CX P w) P w K mg base ["_law_pool_here", "_law_windows_here", "_law_row_here", "_law_work"] "_law_order" (defScope s_L_law_order) f (.ref c.cc_L_law_order) A outer s H E) (WE0 E) := takes_of rfl rfl rfl rfl
  have po0 : PassesOwn (model P w) (A.deeper (envOfC "_law_order" (defScope s_L_law_order) s.heap.objs.size f (.ref c.cc_L_law_order))) (envOfC "_law_order" (defScope s_L_law_order) s.heap.objs.size f (.ref c.cc_L_law_order)) (cxOf (L2.CX P w) P w K mg base ["_law_pool_here", "_law_windows_here", "_law_row_here", "_law_work"] "_law_order" (defScope s_L_law_order) f (.ref c.cc_L_law_order) A outer s H E).xe := passes_of rfl
  have hu := hr.units
  have hu1 := hu_of hr
  have G_L_law_draw := ok_L_law_draw (P := P) (w := w) (base := base) T
  have G_L_law_row := ok_L_law_row (P := P) (w := w) (base := base) T
  exact (sds_cons (ss nd (ed_cal G_L_law_row (cc_L_law_row) (hr.mono (by decide)) (by rfl) T.m_L_law_row T.F_L_law_row.kp T.b_L_law_row tk0 (EAn.plain (ea_cons (v 0) (ea_cons (ed_tupR rfl (by rfl) T.z_tuple (rg1 (by rfl) T.z_range (ed_cb call_len od_len (by rfl) T.z_len bt_len (EAn.plain (ea_cons (v 1) ea_nil))))) ea_nil)))))
    (sds_cons (sd_if (et_cmp (op_eqD hu) od_eq (ed_cal G_L_law_draw (cc_L_law_draw) (hr.mono (by decide)) (by rfl) T.m_L_law_draw T.F_L_law_draw.kp T.b_L_law_draw tk0 (EAn.plain (ea_cons (v 0) (ea_cons ed_int ea_nil)))) ed_int (by first | exact nomark _ | rfl)) (sds_one (sd_ret (ed_ct call_tuple_of od_tuple (by rfl) T.z_tuple bt_tuple (EAn.plain (ea_cons (EN.d (en_sortL (k := 1) (q := q_L_law_order) (by rfl) T.z_sorted (v 2) rfl T.B_L_law_order rfl (by simp [TT]) T.tu_L_law_order (LamY.lamP_by (by show LamY.lamPB (defScope s_L_law_order) _ _ = true; decide +kernel)) (by rfl) (fun _ _ _ _ _ _ => by rfl) nd rfl (hr.mono (by decide)) (fun _ _ _ _ hr2 => have hu := hr2.units; have hu1 := hu_of hr2; (ed_bin op_any od_add (ed_ix ix_seq od_ix (ed_ix ix_seq od_ix (v 1) (v 3) (fun _ _ => rfl)) ed_int (fun _ _ => rfl)) (ed_ix ix_seq od_ix (ed_ix ix_seq od_ix (v 1) (v 3) (fun _ _ => rfl)) ed_int (fun _ _ => rfl)))))) ea_nil))))) sds_nil)
    (sds_one (sd_ret (v 2)))))
theorem ok_L_law_order (T : Txt K mg base c) : FnOk P w K mg base (L2.CX P w) 3 c.f_L_law_order c.fd_L_law_order ["_law_pool_here", "_law_windows_here"] (sp_L_law_order K c) :=
  def_okC T.FC_L_law_order sc_L_law_order (len_L_law_order c) (fun A outer s H E hr => hb_L_law_order T .none A outer s H E hr) (dw_L_law_order c)
theorem hb_law (T : Txt K mg base c) {f : Addr} (cdv : Value) (A : Around) (outer : List Env) (s : Shared) (H : Hp) (E : XK) (hr : Room 8 (A.deeper (envOfC "law" (defScope s_law) s.heap.objs.size f cdv))) :
    SDs (cxOf (L2.CX P w) P w K mg base ["_law_script", "_law_pool_here", "_law_many", "_law_windows_here", "_law_book", "_law_turned", "_law_later", "_law_turn", "_law_order_here", "_law_due", "_law_group", "_law_less", "_law_told", "_law_work"] "law" (defScope s_law) f cdv A outer s H E) (TT c) (WE0 E) (defBody s_law) (w_law c) := by
  have nd := sc_law.nd
  have tk0 : Takes (cxOf (L2.CX P w) P w K mg base ["_law_script", "_law_pool_here", "_law_many", "_law_windows_here", "_law_book", "_law_turned", "_law_later", "_law_turn", "_law_order_here", "_law_due", "_law_group", "_law_less", "_law_told", "_law_work"] "law" (defScope s_law) f cdv A outer s H E) (WE0 E) := takes_of rfl rfl rfl rfl
  have po0 : PassesOwn (model P w) (A.deeper (envOfC "law" (defScope s_law) s.heap.objs.size f cdv)) (envOfC "law" (defScope s_law) s.heap.objs.size f cdv) (cxOf (L2.CX P w) P w K mg base ["_law_script", "_law_pool_here", "_law_many", "_law_windows_here", "_law_book", "_law_turned", "_law_later", "_law_turn", "_law_order_here", "_law_due", "_law_group", "_law_less", "_law_told", "_law_work"] "law" (defScope s_law) f cdv A outer s H E).xe := passes_of rfl
  have hu := hr.units
  have hu1 := hu_of hr
  have G_Book_init := ok_Book_init (P := P) (w := w) (base := base) T
  have G_L_law_draw := ok_L_law_draw (P := P) (w := w) (base := base) T
  have G_L_law_order := ok_L_law_order (P := P) (w := w) (base := base) T
  have G_L_law_pool := ok_L_law_pool (P := P) (w := w) (base := base) T
  have G_L_law_regret := ok_L_law_regret (P := P) (w := w) (base := base) T
  have G_L_law_right := ok_L_law_right (P := P) (w := w) (base := base) T
  have G_L_law_some := ok_L_law_some (P := P) (w := w) (base := base) T
  have G_L_law_windows := ok_L_law_windows (P := P) (w := w) (base := base) T
  have G_mirrored := ok_mirrored (P := P) (w := w) (base := base) T
  have G_part := ok_part (P := P) (w := w) (base := base) T
  have G_regret := ok_regret (P := P) (w := w) (base := base) T
  have G_shifted := ok_shifted (P := P) (w := w) (base := base) T
  exact (sds_cons (ss nd (ed_cal G_L_law_pool (cc_L_law_pool) (hr.mono (by decide)) (by rfl) T.m_L_law_pool T.F_L_law_pool.kp T.b_L_law_pool tk0 (EAn.plain (ea_cons (v 0) ea_nil))))
    (sds_cons (ss nd (ed_bin op_any od_add ed_int (ed_cal G_L_law_draw (cc_L_law_draw) (hr.mono (by decide)) (by rfl) T.m_L_law_draw T.F_L_law_draw.kp T.b_L_law_draw tk0 (EAn.plain (ea_cons (v 1) (ea_cons (ed_ix ix_seq od_ix (EN.d (en_lst (ea_cons ed_int (ea_cons ed_int (ea_cons ed_int (ea_cons ed_int ea_nil)))))) (ed_cal G_L_law_draw (cc_L_law_draw) (hr.mono (by decide)) (by rfl) T.m_L_law_draw T.F_L_law_draw.kp T.b_L_law_draw tk0 (EAn.plain (ea_cons (v 1) (ea_cons ed_int ea_nil)))) (fun _ _ => rfl)) ea_nil))))))
    (sds_cons (sd_if (et_cmp (op_eqD hu) od_eq (ed_cal G_L_law_draw (cc_L_law_draw) (hr.mono (by decide)) (by rfl) T.m_L_law_draw T.F_L_law_draw.kp T.b_L_law_draw tk0 (EAn.plain (ea_cons (v 1) (ea_cons ed_int ea_nil)))) ed_int (by first | exact nomark _ | rfl)) (sds_one (ss nd (ed_bin op_any od_add ed_int (ed_cal G_L_law_draw (cc_L_law_draw) (hr.mono (by decide)) (by rfl) T.m_L_law_draw T.F_L_law_draw.kp T.b_L_law_draw tk0 (EAn.plain (ea_cons (v 1) (ea_cons ed_int ea_nil))))))) sds_nil)
    (sds_cons (ss nd (ed_cal G_L_law_windows (cc_L_law_windows) (hr.mono (by decide)) (by rfl) T.m_L_law_windows T.F_L_law_windows.kp T.b_L_law_windows tk0 (EAn.plain (ea_cons (v 1) (ea_cons (v 2) (ea_cons (ed_ix ix_seq od_ix (EN.d (en_lst (ea_cons ed_int (ea_cons ed_int (ea_cons (ed_bin op_pow od_pow ed_int ed_int) ea_nil))))) (ed_cal G_L_law_draw (cc_L_law_draw) (hr.mono (by decide)) (by rfl) T.m_L_law_draw T.F_L_law_draw.kp T.b_L_law_draw tk0 (EAn.plain (ea_cons (v 1) (ea_cons ed_int ea_nil)))) (fun _ _ => rfl)) ea_nil))))))
    (sds_cons (ss nd (ed_makeI T.mk_Book G_Book_init (cc_Book_init) (hr.mono (by decide)) (by rfl) T.m_Book T.b_Book_init tk0 (EAn.plain (ea_cons (v 3) ea_nil))))
    (sds_cons (ss nd (ed_cal G_mirrored (cc_mirrored) (hr.mono (by decide)) (by rfl) T.m_mirrored T.F_mirrored.kp T.b_mirrored tk0 (EAn.plain (ea_cons (v 4) ea_nil))))
    (sds_cons (ss nd (ed_cal G_shifted (cc_shifted) (hr.mono (by decide)) (by rfl) T.m_shifted T.F_shifted.kp T.b_shifted tk0 (EAn.plain (ea_cons (v 4) (ea_cons (ed_cal G_L_law_draw (cc_L_law_draw) (hr.mono (by decide)) (by rfl) T.m_L_law_draw T.F_L_law_draw.kp T.b_L_law_draw tk0 (EAn.plain (ea_cons (v 1) (ea_cons (ed_bin op_pow od_pow ed_int ed_int) ea_nil)))) ea_nil)))))
    (sds_cons (sd_for po0 rfl (id_rng1 (pi_range1 (by rfl) T.z_range (EA.run (EAn.plain (ea_cons ed_int ea_nil))))) (gn nd) (sds_cons (ss nd (ed_cal G_L_law_order (cc_L_law_order) (hr.mono (by decide)) (by rfl) T.m_L_law_order T.F_L_law_order.kp T.b_L_law_order tk0 (EAn.plain (ea_cons (v 1) (ea_cons (v 3) ea_nil)))))
    (sds_cons (ss nd (ed_cal G_L_law_regret (cc_L_law_regret) (hr.mono (by decide)) (by rfl) T.m_L_law_regret T.F_L_law_regret.kp T.b_L_law_regret tk0 (EAn.plain (ea_cons (v 3) (ea_cons (v 8) ea_nil)))))
    (sds_cons (sd_if (et_cmp op_gt od_gt (v 2) ed_int (by first | exact nomark _ | rfl)) (sds_one (sd_ret (ed_and (ed_cal G_L_law_right (cc_L_law_right) (hr.mono (by decide)) (by rfl) T.m_L_law_right T.F_L_law_right.kp T.b_L_law_right tk0 (EAn.plain (ea_cons (v 4) (ea_cons (v 8) (ea_cons (v 9) ea_nil))))) (ed_one (ed_cal G_L_law_right (cc_L_law_right) (hr.mono (by decide)) (by rfl) T.m_L_law_right T.F_L_law_right.kp T.b_L_law_right tk0 (EAn.plain (ea_cons (v 5) (ea_cons (ed_revT (v 8)) (ea_cons (v 9) ea_nil))))))))) sds_nil)
    (sds_cons (sd_if (EW.t (ew_or (et_not (et_val (ed_cal G_L_law_right (cc_L_law_right) (hr.mono (by decide)) (by rfl) T.m_L_law_right T.F_L_law_right.kp T.b_L_law_right tk0 (EAn.plain (ea_cons (v 4) (ea_cons (v 8) (ea_cons (v 9) ea_nil))))))) (ew_or1 (et_not (et_val (ed_cal G_L_law_right (cc_L_law_right) (hr.mono (by decide)) (by rfl) T.m_L_law_right T.F_L_law_right.kp T.b_L_law_right tk0 (EAn.plain (ea_cons (v 5) (ea_cons (ed_revT (v 8)) (ea_cons (v 9) ea_nil)))))))))) (sds_one (sd_ret ed_bl)) sds_nil)
    (sds_cons (sd_if (EW.t (ew_or (et_not (et_val (ed_cal G_L_law_right (cc_L_law_right) (hr.mono (by decide)) (by rfl) T.m_L_law_right T.F_L_law_right.kp T.b_L_law_right tk0 (EAn.plain (ea_cons (v 6) (ea_cons (v 8) (ea_cons (v 9) ea_nil))))))) (ew_or1 (et_not (et_val (ed_cal G_L_law_right (cc_L_law_right) (hr.mono (by decide)) (by rfl) T.m_L_law_right T.F_L_law_right.kp T.b_L_law_right tk0 (EAn.plain (ea_cons (v 4) (ea_cons (ed_revT (v 8)) (ea_cons (ed_cal G_L_law_regret (cc_L_law_regret) (hr.mono (by decide)) (by rfl) T.m_L_law_regret T.F_L_law_regret.kp T.b_L_law_regret tk0 (EAn.plain (ea_cons (v 3) (ea_cons (ed_revT (v 8)) ea_nil)))) ea_nil)))))))))) (sds_one (sd_ret ed_bl)) sds_nil)
    (sds_cons (ss nd (ed_cal G_L_law_some (cc_L_law_some) (hr.mono (by decide)) (by rfl) T.m_L_law_some T.F_L_law_some.kp T.b_L_law_some tk0 (EAn.plain (ea_cons (v 1) (ea_cons (v 2) ea_nil)))))
    (sds_one (sd_if (et_cmp op_gt od_gt (ed_cb call_len od_len (by rfl) T.z_len bt_len (EAn.plain (ea_cons (v 10) ea_nil))) ed_int (by first | exact nomark _ | rfl)) (sds_cons (ss nd (ed_ct call_tuple_of od_tuple (by rfl) T.z_tuple bt_tuple (EAn.plain (ea_cons (EN.d (en_lc (own := [("_law_work", 13)]) (is := [13]) (by rfl) nd (id_seq (v 8)) (blkOk_by (N := ["_law_script", "_law_pool_here", "_law_many", "_law_windows_here", "_law_book", "_law_turned", "_law_later", "_law_turn", "_law_order_here", "_law_due", "_law_group", "_law_less", "_law_told", "_law_work"]) (sc := defScope s_law) (by decide +kernel)) (fun _ _ _ _ _ => (gn nd)) (fun _ _ _ _ _ => (ep_one (et_cmp op_in_seq od_in (v 13) (v 10) (by first | exact nomark _ | rfl)))) (fun _ _ _ _ _ => (ed_tix (v 10) (v 13) (fun _ _ h1 h2 => pe_tix h1 h2))) (by decide))) ea_nil))))
    (sds_cons (ss nd (ed_cal G_regret (cc_regret) (hr.mono (by decide)) (by rfl) T.m_regret T.F_regret.kp T.b_regret tk0 (EAn.plain (ea_cons (ed_cal G_part (cc_part) (hr.mono (by decide)) (by rfl) T.m_part T.F_part.kp T.b_part tk0 (EAn.plain (ea_cons (v 4) (ea_cons (v 10) ea_nil)))) (ea_cons (v 11) ea_nil)))))
    (sds_one (sd_if (EW.t (ew_or (et_cmp (op_neD hu) od_ne (v 12) (ed_cal G_L_law_regret (cc_L_law_regret) (hr.mono (by decide)) (by rfl) T.m_L_law_regret T.F_L_law_regret.kp T.b_L_law_regret tk0 (EAn.plain (ea_cons (EN.d (en_lc (own := [("_law_work", 13)]) (is := [13]) (by rfl) nd (id_seq (v 10)) (blkOk_by (N := ["_law_script", "_law_pool_here", "_law_many", "_law_windows_here", "_law_book", "_law_turned", "_law_later", "_law_turn", "_law_order_here", "_law_due", "_law_group", "_law_less", "_law_told", "_law_work"]) (sc := defScope s_law) (by decide +kernel)) (fun _ _ _ _ _ => (gn nd)) (fun _ _ _ _ _ => ep_nil) (fun _ _ _ _ _ => (ed_ix ix_seq od_ix (v 3) (v 13) (fun _ _ => rfl))) (by decide))) (ea_cons (v 11) ea_nil)))) (by first | exact nomark _ | rfl)) (ew_or1 (et_cmp op_gt od_gt (v 12) (v 9) (by first | exact nomark _ | rfl))))) (sds_one (sd_ret ed_bl)) sds_nil)))) sds_nil)))))))))
    (sds_one (sd_ret ed_bl))))))))))
theorem ok_law (T : Txt K mg base c) : FnOk P w K mg base (L2.CX P w) 9 c.f_law c.fd_law ["_law_script"] (sp_law K c) :=
  def_ok T.F_law sc_law (len_law c) (fun cdv A outer s H E hr => hb_law T cdv A outer s H E hr) (dw_law c)
end
end K72
namespace K72
open PySem L2 DL
def f_lawK : FP := fun ds Q _ => ∃ ns : List Int, ds = [.lst (ns.map D.int)] ∧ ns.length ≤ 63 ∧ Q (.bl true)
theorem tab_in {K : PySem.W.Frag} {x : Str} {f c P : Addr} {o o2 : Value} {d d2 : Option Addr} {sl sl2 : Array (Option Value)} {fd : FuncData} {vs : Array Value} (a : PySem.W.nsIn K mainGlobals x = some (some (.ref f))) (l : K.lookup f = some ⟨o, d, .func fd, sl⟩) (hc : fd.code = .ref c) (t1 : K.lookup c = some ⟨o2, d2, .fields vs, sl2⟩) (t2 : vs[11]? = some (.ref P)) : PySem.W.tabIn K x = some (c, P) := by
  unfold PySem.W.tabIn
  rw [a]
  dsimp only
  rw [l]
  dsimp only
  rw [hc]
  dsimp only
  rw [t1]
  dsimp only
  rw [t2]
theorem all_mk {q P : Program} {w : World} {K : PySem.W.Frag} {h : Heap} {mg : Str → Option Value} {fa : Addr} (X : K.In h) (G : h.Ns mainGlobals mg) (hfa : mg "law" = some (.ref fa))
    {lo : List Str} {mean : _} {mb : Str → Option Value} (Tp : PyProof.Rows.Top q lo mean mg mb h)
    {d_widest_of : PySem.DefRec} (r_widest_of : (PyProof.Rows.recsOf q).find? (fun e => e.name == ("widest_of" : Str)) = some d_widest_of)
    {d_L_law_order : PySem.DefRec} (r_L_law_order : (PyProof.Rows.recsOf q).find? (fun e => e.name == ("_law_order" : Str)) = some d_L_law_order)
    (g_MOST_HOUR : ∃ t, mg "MOST_HOUR" = some (.int 1000000 t))
    {AMiddleError : Addr}
    {ABadBook : Addr}
    {ANoGroup : Addr}
    {ANoNumber : Addr}
    {ANoOrder : Addr}
    {ABook : Addr}
    {ARawBook : Addr}
    {fis_integer : Addr} {odis_integer anis_integer : Option Addr} {slis_integer : Array (Option Value)} {ocis_integer kVis_integer dcis_integer pmis_integer ctis_integer : Value} {cdis_integer : Value}
    {fis_within : Addr} {odis_within anis_within : Option Addr} {slis_within : Array (Option Value)} {ocis_within kVis_within dcis_within pmis_within ctis_within : Value} {cdis_within : Value}
    {fis_pair : Addr} {odis_pair anis_pair : Option Addr} {slis_pair : Array (Option Value)} {ocis_pair kVis_pair dcis_pair pmis_pair ctis_pair : Value} {cdis_pair : Value}
    {fare_ascending : Addr} {odare_ascending anare_ascending : Option Addr} {slare_ascending : Array (Option Value)} {ocare_ascending kVare_ascending dcare_ascending pmare_ascending ctare_ascending : Value} {cdare_ascending : Value}
    {fis_window : Addr} {odis_window anis_window : Option Addr} {slis_window : Array (Option Value)} {ocis_window kVis_window dcis_window pmis_window ctis_window : Value} {cdis_window : Value}
    {fBook_init : Addr} {odBook_init anBook_init : Option Addr} {slBook_init : Array (Option Value)} {ocBook_init kVBook_init dcBook_init pmBook_init ctBook_init : Value} {cdBook_init : Value}
    {fRawBook_init : Addr} {odRawBook_init anRawBook_init : Option Addr} {slRawBook_init : Array (Option Value)} {ocRawBook_init kVRawBook_init dcRawBook_init pmRawBook_init ctRawBook_init : Value} {cdRawBook_init : Value}
    {fraw_book : Addr} {odraw_book anraw_book : Option Addr} {slraw_book : Array (Option Value)} {ocraw_book kVraw_book dcraw_book pmraw_book ctraw_book : Value} {cdraw_book : Value}
    {fmany_of : Addr} {odmany_of anmany_of : Option Addr} {slmany_of : Array (Option Value)} {ocmany_of kVmany_of dcmany_of pmmany_of ctmany_of : Value} {cdmany_of : Value}
    {ffirst_of : Addr} {odfirst_of anfirst_of : Option Addr} {slfirst_of : Array (Option Value)} {ocfirst_of kVfirst_of dcfirst_of pmfirst_of ctfirst_of : Value} {cdfirst_of : Value}
    {flast_of : Addr} {odlast_of anlast_of : Option Addr} {sllast_of : Array (Option Value)} {oclast_of kVlast_of dclast_of pmlast_of ctlast_of : Value} {cdlast_of : Value}
    {fis_work : Addr} {odis_work anis_work : Option Addr} {slis_work : Array (Option Value)} {ocis_work kVis_work dcis_work pmis_work ctis_work : Value} {cdis_work : Value}
    {fis_row : Addr} {odis_row anis_row : Option Addr} {slis_row : Array (Option Value)} {ocis_row kVis_row dcis_row pmis_row ctis_row : Value} {cdis_row : Value}
    {fis_order : Addr} {odis_order anis_order : Option Addr} {slis_order : Array (Option Value)} {ocis_order kVis_order dcis_order pmis_order ctis_order : Value} {cdis_order : Value}
    {fis_group : Addr} {odis_group anis_group : Option Addr} {slis_group : Array (Option Value)} {ocis_group kVis_group dcis_group pmis_group ctis_group : Value} {cdis_group : Value}
    {fcheck_order : Addr} {odcheck_order ancheck_order : Option Addr} {slcheck_order : Array (Option Value)} {occheck_order kVcheck_order dccheck_order pmcheck_order ctcheck_order : Value} {cdcheck_order : Value}
    {fcheck_group : Addr} {odcheck_group ancheck_group : Option Addr} {slcheck_group : Array (Option Value)} {occheck_group kVcheck_group dccheck_group pmcheck_group ctcheck_group : Value} {cdcheck_group : Value}
    {fpart : Addr} {odpart anpart : Option Addr} {slpart : Array (Option Value)} {ocpart kVpart dcpart pmpart ctpart : Value} {cdpart : Value}
    {fshifted : Addr} {odshifted anshifted : Option Addr} {slshifted : Array (Option Value)} {ocshifted kVshifted dcshifted pmshifted ctshifted : Value} {cdshifted : Value}
    {fmirrored : Addr} {odmirrored anmirrored : Option Addr} {slmirrored : Array (Option Value)} {ocmirrored kVmirrored dcmirrored pmmirrored ctmirrored : Value} {cdmirrored : Value}
    {fwidest_of : Addr} {odwidest_of anwidest_of : Option Addr} {slwidest_of : Array (Option Value)} {ocwidest_of kVwidest_of dcwidest_of pmwidest_of ctwidest_of : Value}
    {cCwidest_of cPwidest_of : Addr} {cowidest_of : Value} {ckwidest_of : Option Addr} {cvwidest_of : Array Value} {cswidest_of : Array (Option Value)}
    {fworst_behind : Addr} {odworst_behind anworst_behind : Option Addr} {slworst_behind : Array (Option Value)} {ocworst_behind kVworst_behind dcworst_behind pmworst_behind ctworst_behind : Value} {cdworst_behind : Value}
    {fregret_in : Addr} {odregret_in anregret_in : Option Addr} {slregret_in : Array (Option Value)} {ocregret_in kVregret_in dcregret_in pmregret_in ctregret_in : Value} {cdregret_in : Value}
    {fregret : Addr} {odregret anregret : Option Addr} {slregret : Array (Option Value)} {ocregret kVregret dcregret pmregret ctregret : Value} {cdregret : Value}
    {fL_law_pool : Addr} {odL_law_pool anL_law_pool : Option Addr} {slL_law_pool : Array (Option Value)} {ocL_law_pool kVL_law_pool dcL_law_pool pmL_law_pool ctL_law_pool : Value} {cdL_law_pool : Value}
    {fL_law_draw : Addr} {odL_law_draw anL_law_draw : Option Addr} {slL_law_draw : Array (Option Value)} {ocL_law_draw kVL_law_draw dcL_law_draw pmL_law_draw ctL_law_draw : Value} {cdL_law_draw : Value}
    {fL_law_windows : Addr} {odL_law_windows anL_law_windows : Option Addr} {slL_law_windows : Array (Option Value)} {ocL_law_windows kVL_law_windows dcL_law_windows pmL_law_windows ctL_law_windows : Value} {cdL_law_windows : Value}
    {fL_law_row : Addr} {odL_law_row anL_law_row : Option Addr} {slL_law_row : Array (Option Value)} {ocL_law_row kVL_law_row dcL_law_row pmL_law_row ctL_law_row : Value} {cdL_law_row : Value}
    {fL_law_some : Addr} {odL_law_some anL_law_some : Option Addr} {slL_law_some : Array (Option Value)} {ocL_law_some kVL_law_some dcL_law_some pmL_law_some ctL_law_some : Value} {cdL_law_some : Value}
    {fL_law_is_int : Addr} {odL_law_is_int anL_law_is_int : Option Addr} {slL_law_is_int : Array (Option Value)} {ocL_law_is_int kVL_law_is_int dcL_law_is_int pmL_law_is_int ctL_law_is_int : Value} {cdL_law_is_int : Value}
    {fL_law_regret : Addr} {odL_law_regret anL_law_regret : Option Addr} {slL_law_regret : Array (Option Value)} {ocL_law_regret kVL_law_regret dcL_law_regret pmL_law_regret ctL_law_regret : Value} {cdL_law_regret : Value}
    {fL_law_right : Addr} {odL_law_right anL_law_right : Option Addr} {slL_law_right : Array (Option Value)} {ocL_law_right kVL_law_right dcL_law_right pmL_law_right ctL_law_right : Value} {cdL_law_right : Value}
    {fL_law_order : Addr} {odL_law_order anL_law_order : Option Addr} {slL_law_order : Array (Option Value)} {ocL_law_order kVL_law_order dcL_law_order pmL_law_order ctL_law_order : Value}
    {cCL_law_order cPL_law_order : Addr} {coL_law_order : Value} {ckL_law_order : Option Addr} {cvL_law_order : Array Value} {csL_law_order : Array (Option Value)}
    {flaw : Addr} {odlaw anlaw : Option Addr} {sllaw : Array (Option Value)} {oclaw kVlaw dclaw pmlaw ctlaw : Value} {cdlaw : Value}
    {tkMOST_WORKS : Tok}
    (a_MiddleError : PySem.W.nsIn K mainGlobals "MiddleError" = some (some (.ref AMiddleError)))
    (a_BadBook : PySem.W.nsIn K mainGlobals "BadBook" = some (some (.ref ABadBook)))
    (a_NoGroup : PySem.W.nsIn K mainGlobals "NoGroup" = some (some (.ref ANoGroup)))
    (a_NoNumber : PySem.W.nsIn K mainGlobals "NoNumber" = some (some (.ref ANoNumber)))
    (a_NoOrder : PySem.W.nsIn K mainGlobals "NoOrder" = some (some (.ref ANoOrder)))
    (a_Book : PySem.W.nsIn K mainGlobals "Book" = some (some (.ref ABook)))
    (a_RawBook : PySem.W.nsIn K mainGlobals "RawBook" = some (some (.ref ARawBook)))
    (pg_Book : PySem.W.plainGet K ABook Str.empty = true)
    (hd_Book : PySem.W.hasDictIn K ABook = true)
    (po_Book : PySem.W.plainOver K ABook = true)
    (sa_Book : PySem.W.findIn K (.ref ABook) "__setattr__" = some (some (.builtin "object.__setattr__")))
    (pg_RawBook : PySem.W.plainGet K ARawBook Str.empty = true)
    (hd_RawBook : PySem.W.hasDictIn K ARawBook = true)
    (po_RawBook : PySem.W.plainOver K ARawBook = true)
    (sa_RawBook : PySem.W.findIn K (.ref ARawBook) "__setattr__" = some (some (.builtin "object.__setattr__")))
    (a_is_integer : PySem.W.nsIn K mainGlobals "is_integer" = some (some (.ref fis_integer)))
    (l_is_integer : K.lookup fis_integer = some ⟨ocis_integer, odis_integer, .func (PySem.W.fnOf "is_integer" "is_integer" (defArgs s_is_integer) (defBody s_is_integer) (defScope s_is_integer) .none kVis_integer dcis_integer pmis_integer anis_integer cdis_integer ctis_integer), slis_integer⟩)
    (c_is_integer : PySem.W.codeIn K cdis_integer "is_integer" = true)
    (k_is_integer : PySem.W.keepIn K (.ref fis_integer) = true)
    (a_is_within : PySem.W.nsIn K mainGlobals "is_within" = some (some (.ref fis_within)))
    (l_is_within : K.lookup fis_within = some ⟨ocis_within, odis_within, .func (PySem.W.fnOf "is_within" "is_within" (defArgs s_is_within) (defBody s_is_within) (defScope s_is_within) .none kVis_within dcis_within pmis_within anis_within cdis_within ctis_within), slis_within⟩)
    (c_is_within : PySem.W.codeIn K cdis_within "is_within" = true)
    (k_is_within : PySem.W.keepIn K (.ref fis_within) = true)
    (a_is_pair : PySem.W.nsIn K mainGlobals "is_pair" = some (some (.ref fis_pair)))
    (l_is_pair : K.lookup fis_pair = some ⟨ocis_pair, odis_pair, .func (PySem.W.fnOf "is_pair" "is_pair" (defArgs s_is_pair) (defBody s_is_pair) (defScope s_is_pair) .none kVis_pair dcis_pair pmis_pair anis_pair cdis_pair ctis_pair), slis_pair⟩)
    (c_is_pair : PySem.W.codeIn K cdis_pair "is_pair" = true)
    (k_is_pair : PySem.W.keepIn K (.ref fis_pair) = true)
    (a_are_ascending : PySem.W.nsIn K mainGlobals "are_ascending" = some (some (.ref fare_ascending)))
    (l_are_ascending : K.lookup fare_ascending = some ⟨ocare_ascending, odare_ascending, .func (PySem.W.fnOf "are_ascending" "are_ascending" (defArgs s_are_ascending) (defBody s_are_ascending) (defScope s_are_ascending) .none kVare_ascending dcare_ascending pmare_ascending anare_ascending cdare_ascending ctare_ascending), slare_ascending⟩)
    (c_are_ascending : PySem.W.codeIn K cdare_ascending "are_ascending" = true)
    (k_are_ascending : PySem.W.keepIn K (.ref fare_ascending) = true)
    (a_is_window : PySem.W.nsIn K mainGlobals "is_window" = some (some (.ref fis_window)))
    (l_is_window : K.lookup fis_window = some ⟨ocis_window, odis_window, .func (PySem.W.fnOf "is_window" "is_window" (defArgs s_is_window) (defBody s_is_window) (defScope s_is_window) .none kVis_window dcis_window pmis_window anis_window cdis_window ctis_window), slis_window⟩)
    (c_is_window : PySem.W.codeIn K cdis_window "is_window" = true)
    (k_is_window : PySem.W.keepIn K (.ref fis_window) = true)
    (a_Book_init : PySem.W.findIn K (.ref ABook) "__init__" = some (some (.ref fBook_init)))
    (i_Book_init : PySem.W.isFn K (.ref fBook_init) = true)
    (l_Book_init : K.lookup fBook_init = some ⟨ocBook_init, odBook_init, .func (PySem.W.fnOf "__init__" "Book.__init__" (defArgs s_Book_init) (defBody s_Book_init) (defScope s_Book_init) .none kVBook_init dcBook_init pmBook_init anBook_init cdBook_init ctBook_init), slBook_init⟩)
    (c_Book_init : PySem.W.codeIn K cdBook_init "Book.__init__" = true)
    (k_Book_init : PySem.W.keepIn K (.ref fBook_init) = true)
    (a_RawBook_init : PySem.W.findIn K (.ref ARawBook) "__init__" = some (some (.ref fRawBook_init)))
    (i_RawBook_init : PySem.W.isFn K (.ref fRawBook_init) = true)
    (l_RawBook_init : K.lookup fRawBook_init = some ⟨ocRawBook_init, odRawBook_init, .func (PySem.W.fnOf "__init__" "RawBook.__init__" (defArgs s_RawBook_init) (defBody s_RawBook_init) (defScope s_RawBook_init) .none kVRawBook_init dcRawBook_init pmRawBook_init anRawBook_init cdRawBook_init ctRawBook_init), slRawBook_init⟩)
    (c_RawBook_init : PySem.W.codeIn K cdRawBook_init "RawBook.__init__" = true)
    (k_RawBook_init : PySem.W.keepIn K (.ref fRawBook_init) = true)
    (a_raw_book : PySem.W.nsIn K mainGlobals "raw_book" = some (some (.ref fraw_book)))
    (l_raw_book : K.lookup fraw_book = some ⟨ocraw_book, odraw_book, .func (PySem.W.fnOf "raw_book" "raw_book" (defArgs s_raw_book) (defBody s_raw_book) (defScope s_raw_book) .none kVraw_book dcraw_book pmraw_book anraw_book cdraw_book ctraw_book), slraw_book⟩)
    (c_raw_book : PySem.W.codeIn K cdraw_book "raw_book" = true)
    (k_raw_book : PySem.W.keepIn K (.ref fraw_book) = true)
    (a_many_of : PySem.W.nsIn K mainGlobals "many_of" = some (some (.ref fmany_of)))
    (l_many_of : K.lookup fmany_of = some ⟨ocmany_of, odmany_of, .func (PySem.W.fnOf "many_of" "many_of" (defArgs s_many_of) (defBody s_many_of) (defScope s_many_of) .none kVmany_of dcmany_of pmmany_of anmany_of cdmany_of ctmany_of), slmany_of⟩)
    (c_many_of : PySem.W.codeIn K cdmany_of "many_of" = true)
    (k_many_of : PySem.W.keepIn K (.ref fmany_of) = true)
    (a_first_of : PySem.W.nsIn K mainGlobals "first_of" = some (some (.ref ffirst_of)))
    (l_first_of : K.lookup ffirst_of = some ⟨ocfirst_of, odfirst_of, .func (PySem.W.fnOf "first_of" "first_of" (defArgs s_first_of) (defBody s_first_of) (defScope s_first_of) .none kVfirst_of dcfirst_of pmfirst_of anfirst_of cdfirst_of ctfirst_of), slfirst_of⟩)
    (c_first_of : PySem.W.codeIn K cdfirst_of "first_of" = true)
    (k_first_of : PySem.W.keepIn K (.ref ffirst_of) = true)
    (a_last_of : PySem.W.nsIn K mainGlobals "last_of" = some (some (.ref flast_of)))
    (l_last_of : K.lookup flast_of = some ⟨oclast_of, odlast_of, .func (PySem.W.fnOf "last_of" "last_of" (defArgs s_last_of) (defBody s_last_of) (defScope s_last_of) .none kVlast_of dclast_of pmlast_of anlast_of cdlast_of ctlast_of), sllast_of⟩)
    (c_last_of : PySem.W.codeIn K cdlast_of "last_of" = true)
    (k_last_of : PySem.W.keepIn K (.ref flast_of) = true)
    (a_is_work : PySem.W.nsIn K mainGlobals "is_work" = some (some (.ref fis_work)))
    (l_is_work : K.lookup fis_work = some ⟨ocis_work, odis_work, .func (PySem.W.fnOf "is_work" "is_work" (defArgs s_is_work) (defBody s_is_work) (defScope s_is_work) .none kVis_work dcis_work pmis_work anis_work cdis_work ctis_work), slis_work⟩)
    (c_is_work : PySem.W.codeIn K cdis_work "is_work" = true)
    (k_is_work : PySem.W.keepIn K (.ref fis_work) = true)
    (a_is_row : PySem.W.nsIn K mainGlobals "is_row" = some (some (.ref fis_row)))
    (l_is_row : K.lookup fis_row = some ⟨ocis_row, odis_row, .func (PySem.W.fnOf "is_row" "is_row" (defArgs s_is_row) (defBody s_is_row) (defScope s_is_row) .none kVis_row dcis_row pmis_row anis_row cdis_row ctis_row), slis_row⟩)
    (c_is_row : PySem.W.codeIn K cdis_row "is_row" = true)
    (k_is_row : PySem.W.keepIn K (.ref fis_row) = true)
    (a_is_order : PySem.W.nsIn K mainGlobals "is_order" = some (some (.ref fis_order)))
    (l_is_order : K.lookup fis_order = some ⟨ocis_order, odis_order, .func (PySem.W.fnOf "is_order" "is_order" (defArgs s_is_order) (defBody s_is_order) (defScope s_is_order) .none kVis_order dcis_order pmis_order anis_order cdis_order ctis_order), slis_order⟩)
    (c_is_order : PySem.W.codeIn K cdis_order "is_order" = true)
    (k_is_order : PySem.W.keepIn K (.ref fis_order) = true)
    (a_is_group : PySem.W.nsIn K mainGlobals "is_group" = some (some (.ref fis_group)))
    (l_is_group : K.lookup fis_group = some ⟨ocis_group, odis_group, .func (PySem.W.fnOf "is_group" "is_group" (defArgs s_is_group) (defBody s_is_group) (defScope s_is_group) .none kVis_group dcis_group pmis_group anis_group cdis_group ctis_group), slis_group⟩)
    (c_is_group : PySem.W.codeIn K cdis_group "is_group" = true)
    (k_is_group : PySem.W.keepIn K (.ref fis_group) = true)
    (a_check_order : PySem.W.nsIn K mainGlobals "check_order" = some (some (.ref fcheck_order)))
    (l_check_order : K.lookup fcheck_order = some ⟨occheck_order, odcheck_order, .func (PySem.W.fnOf "check_order" "check_order" (defArgs s_check_order) (defBody s_check_order) (defScope s_check_order) .none kVcheck_order dccheck_order pmcheck_order ancheck_order cdcheck_order ctcheck_order), slcheck_order⟩)
    (c_check_order : PySem.W.codeIn K cdcheck_order "check_order" = true)
    (k_check_order : PySem.W.keepIn K (.ref fcheck_order) = true)
    (a_check_group : PySem.W.nsIn K mainGlobals "check_group" = some (some (.ref fcheck_group)))
    (l_check_group : K.lookup fcheck_group = some ⟨occheck_group, odcheck_group, .func (PySem.W.fnOf "check_group" "check_group" (defArgs s_check_group) (defBody s_check_group) (defScope s_check_group) .none kVcheck_group dccheck_group pmcheck_group ancheck_group cdcheck_group ctcheck_group), slcheck_group⟩)
    (c_check_group : PySem.W.codeIn K cdcheck_group "check_group" = true)
    (k_check_group : PySem.W.keepIn K (.ref fcheck_group) = true)
    (a_part : PySem.W.nsIn K mainGlobals "part" = some (some (.ref fpart)))
    (l_part : K.lookup fpart = some ⟨ocpart, odpart, .func (PySem.W.fnOf "part" "part" (defArgs s_part) (defBody s_part) (defScope s_part) .none kVpart dcpart pmpart anpart cdpart ctpart), slpart⟩)
    (c_part : PySem.W.codeIn K cdpart "part" = true)
    (k_part : PySem.W.keepIn K (.ref fpart) = true)
    (a_shifted : PySem.W.nsIn K mainGlobals "shifted" = some (some (.ref fshifted)))
    (l_shifted : K.lookup fshifted = some ⟨ocshifted, odshifted, .func (PySem.W.fnOf "shifted" "shifted" (defArgs s_shifted) (defBody s_shifted) (defScope s_shifted) .none kVshifted dcshifted pmshifted anshifted cdshifted ctshifted), slshifted⟩)
    (c_shifted : PySem.W.codeIn K cdshifted "shifted" = true)
    (k_shifted : PySem.W.keepIn K (.ref fshifted) = true)
    (a_mirrored : PySem.W.nsIn K mainGlobals "mirrored" = some (some (.ref fmirrored)))
    (l_mirrored : K.lookup fmirrored = some ⟨ocmirrored, odmirrored, .func (PySem.W.fnOf "mirrored" "mirrored" (defArgs s_mirrored) (defBody s_mirrored) (defScope s_mirrored) .none kVmirrored dcmirrored pmmirrored anmirrored cdmirrored ctmirrored), slmirrored⟩)
    (c_mirrored : PySem.W.codeIn K cdmirrored "mirrored" = true)
    (k_mirrored : PySem.W.keepIn K (.ref fmirrored) = true)
    (a_widest_of : PySem.W.nsIn K mainGlobals "widest_of" = some (some (.ref fwidest_of)))
    (l_widest_of : K.lookup fwidest_of = some ⟨ocwidest_of, odwidest_of, .func (PySem.W.fnOf "widest_of" "widest_of" (defArgs s_widest_of) (defBody s_widest_of) (defScope s_widest_of) .none kVwidest_of dcwidest_of pmwidest_of anwidest_of (.ref cCwidest_of) ctwidest_of), slwidest_of⟩)
    (c_widest_of : PySem.W.codeIn K (.ref cCwidest_of) "widest_of" = true)
    (t1_widest_of : K.lookup cCwidest_of = some ⟨cowidest_of, ckwidest_of, .fields cvwidest_of, cswidest_of⟩)
    (t2_widest_of : cvwidest_of[11]? = some (.ref cPwidest_of))
    (nn_widest_of : K.lookup cPwidest_of = none)
    (k_widest_of : PySem.W.keepIn K (.ref fwidest_of) = true)
    (a_worst_behind : PySem.W.nsIn K mainGlobals "worst_behind" = some (some (.ref fworst_behind)))
    (l_worst_behind : K.lookup fworst_behind = some ⟨ocworst_behind, odworst_behind, .func (PySem.W.fnOf "worst_behind" "worst_behind" (defArgs s_worst_behind) (defBody s_worst_behind) (defScope s_worst_behind) .none kVworst_behind dcworst_behind pmworst_behind anworst_behind cdworst_behind ctworst_behind), slworst_behind⟩)
    (c_worst_behind : PySem.W.codeIn K cdworst_behind "worst_behind" = true)
    (k_worst_behind : PySem.W.keepIn K (.ref fworst_behind) = true)
    (a_regret_in : PySem.W.nsIn K mainGlobals "regret_in" = some (some (.ref fregret_in)))
    (l_regret_in : K.lookup fregret_in = some ⟨ocregret_in, odregret_in, .func (PySem.W.fnOf "regret_in" "regret_in" (defArgs s_regret_in) (defBody s_regret_in) (defScope s_regret_in) .none kVregret_in dcregret_in pmregret_in anregret_in cdregret_in ctregret_in), slregret_in⟩)
    (c_regret_in : PySem.W.codeIn K cdregret_in "regret_in" = true)
    (k_regret_in : PySem.W.keepIn K (.ref fregret_in) = true)
    (a_regret : PySem.W.nsIn K mainGlobals "regret" = some (some (.ref fregret)))
    (l_regret : K.lookup fregret = some ⟨ocregret, odregret, .func (PySem.W.fnOf "regret" "regret" (defArgs s_regret) (defBody s_regret) (defScope s_regret) .none kVregret dcregret pmregret anregret cdregret ctregret), slregret⟩)
    (c_regret : PySem.W.codeIn K cdregret "regret" = true)
    (k_regret : PySem.W.keepIn K (.ref fregret) = true)
    (a_L_law_pool : PySem.W.nsIn K mainGlobals "_law_pool" = some (some (.ref fL_law_pool)))
    (l_L_law_pool : K.lookup fL_law_pool = some ⟨ocL_law_pool, odL_law_pool, .func (PySem.W.fnOf "_law_pool" "_law_pool" (defArgs s_L_law_pool) (defBody s_L_law_pool) (defScope s_L_law_pool) .none kVL_law_pool dcL_law_pool pmL_law_pool anL_law_pool cdL_law_pool ctL_law_pool), slL_law_pool⟩)
    (c_L_law_pool : PySem.W.codeIn K cdL_law_pool "_law_pool" = true)
    (k_L_law_pool : PySem.W.keepIn K (.ref fL_law_pool) = true)
    (a_L_law_draw : PySem.W.nsIn K mainGlobals "_law_draw" = some (some (.ref fL_law_draw)))
    (l_L_law_draw : K.lookup fL_law_draw = some ⟨ocL_law_draw, odL_law_draw, .func (PySem.W.fnOf "_law_draw" "_law_draw" (defArgs s_L_law_draw) (defBody s_L_law_draw) (defScope s_L_law_draw) .none kVL_law_draw dcL_law_draw pmL_law_draw anL_law_draw cdL_law_draw ctL_law_draw), slL_law_draw⟩)
    (c_L_law_draw : PySem.W.codeIn K cdL_law_draw "_law_draw" = true)
    (k_L_law_draw : PySem.W.keepIn K (.ref fL_law_draw) = true)
    (a_L_law_windows : PySem.W.nsIn K mainGlobals "_law_windows" = some (some (.ref fL_law_windows)))
    (l_L_law_windows : K.lookup fL_law_windows = some ⟨ocL_law_windows, odL_law_windows, .func (PySem.W.fnOf "_law_windows" "_law_windows" (defArgs s_L_law_windows) (defBody s_L_law_windows) (defScope s_L_law_windows) .none kVL_law_windows dcL_law_windows pmL_law_windows anL_law_windows cdL_law_windows ctL_law_windows), slL_law_windows⟩)
    (c_L_law_windows : PySem.W.codeIn K cdL_law_windows "_law_windows" = true)
    (k_L_law_windows : PySem.W.keepIn K (.ref fL_law_windows) = true)
    (a_L_law_row : PySem.W.nsIn K mainGlobals "_law_row" = some (some (.ref fL_law_row)))
    (l_L_law_row : K.lookup fL_law_row = some ⟨ocL_law_row, odL_law_row, .func (PySem.W.fnOf "_law_row" "_law_row" (defArgs s_L_law_row) (defBody s_L_law_row) (defScope s_L_law_row) .none kVL_law_row dcL_law_row pmL_law_row anL_law_row cdL_law_row ctL_law_row), slL_law_row⟩)
    (c_L_law_row : PySem.W.codeIn K cdL_law_row "_law_row" = true)
    (k_L_law_row : PySem.W.keepIn K (.ref fL_law_row) = true)
    (a_L_law_some : PySem.W.nsIn K mainGlobals "_law_some" = some (some (.ref fL_law_some)))
    (l_L_law_some : K.lookup fL_law_some = some ⟨ocL_law_some, odL_law_some, .func (PySem.W.fnOf "_law_some" "_law_some" (defArgs s_L_law_some) (defBody s_L_law_some) (defScope s_L_law_some) .none kVL_law_some dcL_law_some pmL_law_some anL_law_some cdL_law_some ctL_law_some), slL_law_some⟩)
    (c_L_law_some : PySem.W.codeIn K cdL_law_some "_law_some" = true)
    (k_L_law_some : PySem.W.keepIn K (.ref fL_law_some) = true)
    (a_L_law_is_int : PySem.W.nsIn K mainGlobals "_law_is_int" = some (some (.ref fL_law_is_int)))
    (l_L_law_is_int : K.lookup fL_law_is_int = some ⟨ocL_law_is_int, odL_law_is_int, .func (PySem.W.fnOf "_law_is_int" "_law_is_int" (defArgs s_L_law_is_int) (defBody s_L_law_is_int) (defScope s_L_law_is_int) .none kVL_law_is_int dcL_law_is_int pmL_law_is_int anL_law_is_int cdL_law_is_int ctL_law_is_int), slL_law_is_int⟩)
    (c_L_law_is_int : PySem.W.codeIn K cdL_law_is_int "_law_is_int" = true)
    (k_L_law_is_int : PySem.W.keepIn K (.ref fL_law_is_int) = true)
    (a_L_law_regret : PySem.W.nsIn K mainGlobals "_law_regret" = some (some (.ref fL_law_regret)))
    (l_L_law_regret : K.lookup fL_law_regret = some ⟨ocL_law_regret, odL_law_regret, .func (PySem.W.fnOf "_law_regret" "_law_regret" (defArgs s_L_law_regret) (defBody s_L_law_regret) (defScope s_L_law_regret) .none kVL_law_regret dcL_law_regret pmL_law_regret anL_law_regret cdL_law_regret ctL_law_regret), slL_law_regret⟩)
    (c_L_law_regret : PySem.W.codeIn K cdL_law_regret "_law_regret" = true)
    (k_L_law_regret : PySem.W.keepIn K (.ref fL_law_regret) = true)
    (a_L_law_right : PySem.W.nsIn K mainGlobals "_law_right" = some (some (.ref fL_law_right)))
    (l_L_law_right : K.lookup fL_law_right = some ⟨ocL_law_right, odL_law_right, .func (PySem.W.fnOf "_law_right" "_law_right" (defArgs s_L_law_right) (defBody s_L_law_right) (defScope s_L_law_right) .none kVL_law_right dcL_law_right pmL_law_right anL_law_right cdL_law_right ctL_law_right), slL_law_right⟩)
    (c_L_law_right : PySem.W.codeIn K cdL_law_right "_law_right" = true)
    (k_L_law_right : PySem.W.keepIn K (.ref fL_law_right) = true)
    (a_L_law_order : PySem.W.nsIn K mainGlobals "_law_order" = some (some (.ref fL_law_order)))
    (l_L_law_order : K.lookup fL_law_order = some ⟨ocL_law_order, odL_law_order, .func (PySem.W.fnOf "_law_order" "_law_order" (defArgs s_L_law_order) (defBody s_L_law_order) (defScope s_L_law_order) .none kVL_law_order dcL_law_order pmL_law_order anL_law_order (.ref cCL_law_order) ctL_law_order), slL_law_order⟩)
    (c_L_law_order : PySem.W.codeIn K (.ref cCL_law_order) "_law_order" = true)
    (t1_L_law_order : K.lookup cCL_law_order = some ⟨coL_law_order, ckL_law_order, .fields cvL_law_order, csL_law_order⟩)
    (t2_L_law_order : cvL_law_order[11]? = some (.ref cPL_law_order))
    (nn_L_law_order : K.lookup cPL_law_order = none)
    (k_L_law_order : PySem.W.keepIn K (.ref fL_law_order) = true)
    (a_law : PySem.W.nsIn K mainGlobals "law" = some (some (.ref flaw)))
    (l_law : K.lookup flaw = some ⟨oclaw, odlaw, .func (PySem.W.fnOf "law" "law" (defArgs s_law) (defBody s_law) (defScope s_law) .none kVlaw dclaw pmlaw anlaw cdlaw ctlaw), sllaw⟩)
    (c_law : PySem.W.codeIn K cdlaw "law" = true)
    (k_law : PySem.W.keepIn K (.ref flaw) = true)
    (mk_Book : PySem.W.makesIn K ABook = true)
    (kc_Book : PySem.W.keepIn K (.ref ABook) = true)
    (mk_RawBook : PySem.W.makesIn K ARawBook = true)
    (kc_RawBook : PySem.W.keepIn K (.ref ARawBook) = true)
    (n_Book_kept_windows : PySem.W.findIn K (.ref ABook) "kept_windows" = some none)
    (n_Book_windows : PySem.W.findIn K (.ref ABook) "windows" = some none)
    (n_RawBook_kept_windows : PySem.W.findIn K (.ref ARawBook) "kept_windows" = some none)
    (n_RawBook_windows : PySem.W.findIn K (.ref ARawBook) "windows" = some none)
    (z_abs : PySem.W.nsIn K mainGlobals "abs" = some none)
    (z_all : PySem.W.nsIn K mainGlobals "all" = some none)
    (z_any : PySem.W.nsIn K mainGlobals "any" = some none)
    (z_bool : PySem.W.nsIn K mainGlobals "bool" = some none)
    (z_int : PySem.W.nsIn K mainGlobals "int" = some none)
    (z_isinstance : PySem.W.nsIn K mainGlobals "isinstance" = some none)
    (z_len : PySem.W.nsIn K mainGlobals "len" = some none)
    (z_list : PySem.W.nsIn K mainGlobals "list" = some none)
    (z_max : PySem.W.nsIn K mainGlobals "max" = some none)
    (z_min : PySem.W.nsIn K mainGlobals "min" = some none)
    (z_range : PySem.W.nsIn K mainGlobals "range" = some none)
    (z_set : PySem.W.nsIn K mainGlobals "set" = some none)
    (z_sorted : PySem.W.nsIn K mainGlobals "sorted" = some none)
    (z_sum : PySem.W.nsIn K mainGlobals "sum" = some none)
    (z_tuple : PySem.W.nsIn K mainGlobals "tuple" = some none)
    (z_zip : PySem.W.nsIn K mainGlobals "zip" = some none)
    (g_MOST_WORKS : PySem.W.nsIn K mainGlobals "MOST_WORKS" = some (some (.int 40 tkMOST_WORKS)))
    (x_BadBook : PySem.W.excIn K ABadBook [.type "ValueError", .type "Exception", .type "BaseException", .type "object"] "ValueError.__new__" = true)
    (q_BadBook : PySem.W.keepIn K (.ref ABadBook) = true)
    (s_BadBook : PySem.W.subIn K (.ref ABadBook) (.type "BaseException") = some true)
    (y_BadBook : PySem.W.typeIn K (.ref ABadBook) = some (.type "type"))
    (x_NoGroup : PySem.W.excIn K ANoGroup [.type "ValueError", .type "Exception", .type "BaseException", .type "object"] "ValueError.__new__" = true)
    (q_NoGroup : PySem.W.keepIn K (.ref ANoGroup) = true)
    (s_NoGroup : PySem.W.subIn K (.ref ANoGroup) (.type "BaseException") = some true)
    (y_NoGroup : PySem.W.typeIn K (.ref ANoGroup) = some (.type "type"))
    (x_NoNumber : PySem.W.excIn K ANoNumber [.type "ValueError", .type "Exception", .type "BaseException", .type "object"] "ValueError.__new__" = true)
    (q_NoNumber : PySem.W.keepIn K (.ref ANoNumber) = true)
    (s_NoNumber : PySem.W.subIn K (.ref ANoNumber) (.type "BaseException") = some true)
    (y_NoNumber : PySem.W.typeIn K (.ref ANoNumber) = some (.type "type"))
    (x_NoOrder : PySem.W.excIn K ANoOrder [.type "ValueError", .type "Exception", .type "BaseException", .type "object"] "ValueError.__new__" = true)
    (q_NoOrder : PySem.W.keepIn K (.ref ANoOrder) = true)
    (s_NoOrder : PySem.W.subIn K (.ref ANoOrder) (.type "BaseException") = some true)
    (y_NoOrder : PySem.W.typeIn K (.ref ANoOrder) = some (.type "type"))
    (tu_widest_of : ∀ p ∈ [(cPwidest_of, q_widest_of), (cPL_law_order, q_L_law_order)], p.1 = cPwidest_of → p.2 = q_widest_of)
    (tu_L_law_order : ∀ p ∈ [(cPwidest_of, q_widest_of), (cPL_law_order, q_L_law_order)], p.1 = cPL_law_order → p.2 = q_L_law_order)
    : ∃ (fd : FuncData) (cs : List (Addr × Addr)) (T : TabT), (∀ p ∈ cs, h.get? p.2 = some { cls := .none, data := .fields #[] }) ∧ (∀ p ∈ cs, K.lookup p.2 = none) ∧ (∀ p ∈ cs, PySem.W.CodeHd h p.1 p.2) ∧ (∀ p ∈ T, p.1 ∈ cs.map (·.2)) ∧ (∀ (s : Shared) (v : Value), BindsTo s fd ⟨[v], []⟩ [("_law_script", v)]) ∧ ∀ base : Heap, K.In base → base.Ns mainGlobals mg → (∀ p ∈ cs, LamX.TabB base mg p.1 p.2) → FnOk P w K mg base (L2.CX P w) 9 fa fd ["_law_script"] (spP K T f_lawK) := by
  have e := (PySem.W.mg_of X G a_law).symm.trans hfa
  cases e
  have T : ∀ base : Heap, (∀ p ∈ ([(cCwidest_of, cPwidest_of), (cCL_law_order, cPL_law_order)] : List (Addr × Addr)), LamX.TabB base mg p.1 p.2) → Txt K mg base
    { MiddleError := AMiddleError,
      BadBook := ABadBook,
      NoGroup := ANoGroup,
      NoNumber := ANoNumber,
      NoOrder := ANoOrder,
      Book := ABook,
      RawBook := ARawBook,
      f_is_integer := fis_integer,
      fd_is_integer := PySem.W.fnOf "is_integer" "is_integer" (defArgs s_is_integer) (defBody s_is_integer) (defScope s_is_integer) .none kVis_integer dcis_integer pmis_integer anis_integer cdis_integer ctis_integer,
      f_is_within := fis_within,
      fd_is_within := PySem.W.fnOf "is_within" "is_within" (defArgs s_is_within) (defBody s_is_within) (defScope s_is_within) .none kVis_within dcis_within pmis_within anis_within cdis_within ctis_within,
      f_is_pair := fis_pair,
      fd_is_pair := PySem.W.fnOf "is_pair" "is_pair" (defArgs s_is_pair) (defBody s_is_pair) (defScope s_is_pair) .none kVis_pair dcis_pair pmis_pair anis_pair cdis_pair ctis_pair,
      f_are_ascending := fare_ascending,
      fd_are_ascending := PySem.W.fnOf "are_ascending" "are_ascending" (defArgs s_are_ascending) (defBody s_are_ascending) (defScope s_are_ascending) .none kVare_ascending dcare_ascending pmare_ascending anare_ascending cdare_ascending ctare_ascending,
      f_is_window := fis_window,
      fd_is_window := PySem.W.fnOf "is_window" "is_window" (defArgs s_is_window) (defBody s_is_window) (defScope s_is_window) .none kVis_window dcis_window pmis_window anis_window cdis_window ctis_window,
      f_Book_init := fBook_init,
      fd_Book_init := PySem.W.fnOf "__init__" "Book.__init__" (defArgs s_Book_init) (defBody s_Book_init) (defScope s_Book_init) .none kVBook_init dcBook_init pmBook_init anBook_init cdBook_init ctBook_init,
      f_RawBook_init := fRawBook_init,
      fd_RawBook_init := PySem.W.fnOf "__init__" "RawBook.__init__" (defArgs s_RawBook_init) (defBody s_RawBook_init) (defScope s_RawBook_init) .none kVRawBook_init dcRawBook_init pmRawBook_init anRawBook_init cdRawBook_init ctRawBook_init,
      f_raw_book := fraw_book,
      fd_raw_book := PySem.W.fnOf "raw_book" "raw_book" (defArgs s_raw_book) (defBody s_raw_book) (defScope s_raw_book) .none kVraw_book dcraw_book pmraw_book anraw_book cdraw_book ctraw_book,
      f_many_of := fmany_of,
      fd_many_of := PySem.W.fnOf "many_of" "many_of" (defArgs s_many_of) (defBody s_many_of) (defScope s_many_of) .none kVmany_of dcmany_of pmmany_of anmany_of cdmany_of ctmany_of,
      f_first_of := ffirst_of,
      fd_first_of := PySem.W.fnOf "first_of" "first_of" (defArgs s_first_of) (defBody s_first_of) (defScope s_first_of) .none kVfirst_of dcfirst_of pmfirst_of anfirst_of cdfirst_of ctfirst_of,
      f_last_of := flast_of,
      fd_last_of := PySem.W.fnOf "last_of" "last_of" (defArgs s_last_of) (defBody s_last_of) (defScope s_last_of) .none kVlast_of dclast_of pmlast_of anlast_of cdlast_of ctlast_of,
      f_is_work := fis_work,
      fd_is_work := PySem.W.fnOf "is_work" "is_work" (defArgs s_is_work) (defBody s_is_work) (defScope s_is_work) .none kVis_work dcis_work pmis_work anis_work cdis_work ctis_work,
      f_is_row := fis_row,
      fd_is_row := PySem.W.fnOf "is_row" "is_row" (defArgs s_is_row) (defBody s_is_row) (defScope s_is_row) .none kVis_row dcis_row pmis_row anis_row cdis_row ctis_row,
      f_is_order := fis_order,
      fd_is_order := PySem.W.fnOf "is_order" "is_order" (defArgs s_is_order) (defBody s_is_order) (defScope s_is_order) .none kVis_order dcis_order pmis_order anis_order cdis_order ctis_order,
      f_is_group := fis_group,
      fd_is_group := PySem.W.fnOf "is_group" "is_group" (defArgs s_is_group) (defBody s_is_group) (defScope s_is_group) .none kVis_group dcis_group pmis_group anis_group cdis_group ctis_group,
      f_check_order := fcheck_order,
      fd_check_order := PySem.W.fnOf "check_order" "check_order" (defArgs s_check_order) (defBody s_check_order) (defScope s_check_order) .none kVcheck_order dccheck_order pmcheck_order ancheck_order cdcheck_order ctcheck_order,
      f_check_group := fcheck_group,
      fd_check_group := PySem.W.fnOf "check_group" "check_group" (defArgs s_check_group) (defBody s_check_group) (defScope s_check_group) .none kVcheck_group dccheck_group pmcheck_group ancheck_group cdcheck_group ctcheck_group,
      f_part := fpart,
      fd_part := PySem.W.fnOf "part" "part" (defArgs s_part) (defBody s_part) (defScope s_part) .none kVpart dcpart pmpart anpart cdpart ctpart,
      f_shifted := fshifted,
      fd_shifted := PySem.W.fnOf "shifted" "shifted" (defArgs s_shifted) (defBody s_shifted) (defScope s_shifted) .none kVshifted dcshifted pmshifted anshifted cdshifted ctshifted,
      f_mirrored := fmirrored,
      fd_mirrored := PySem.W.fnOf "mirrored" "mirrored" (defArgs s_mirrored) (defBody s_mirrored) (defScope s_mirrored) .none kVmirrored dcmirrored pmmirrored anmirrored cdmirrored ctmirrored,
      f_widest_of := fwidest_of,
      fd_widest_of := PySem.W.fnOf "widest_of" "widest_of" (defArgs s_widest_of) (defBody s_widest_of) (defScope s_widest_of) .none kVwidest_of dcwidest_of pmwidest_of anwidest_of (.ref cCwidest_of) ctwidest_of,
      cc_widest_of := cCwidest_of,
      cp_widest_of := cPwidest_of,
      f_worst_behind := fworst_behind,
      fd_worst_behind := PySem.W.fnOf "worst_behind" "worst_behind" (defArgs s_worst_behind) (defBody s_worst_behind) (defScope s_worst_behind) .none kVworst_behind dcworst_behind pmworst_behind anworst_behind cdworst_behind ctworst_behind,
      f_regret_in := fregret_in,
      fd_regret_in := PySem.W.fnOf "regret_in" "regret_in" (defArgs s_regret_in) (defBody s_regret_in) (defScope s_regret_in) .none kVregret_in dcregret_in pmregret_in anregret_in cdregret_in ctregret_in,
      f_regret := fregret,
      fd_regret := PySem.W.fnOf "regret" "regret" (defArgs s_regret) (defBody s_regret) (defScope s_regret) .none kVregret dcregret pmregret anregret cdregret ctregret,
      f_L_law_pool := fL_law_pool,
      fd_L_law_pool := PySem.W.fnOf "_law_pool" "_law_pool" (defArgs s_L_law_pool) (defBody s_L_law_pool) (defScope s_L_law_pool) .none kVL_law_pool dcL_law_pool pmL_law_pool anL_law_pool cdL_law_pool ctL_law_pool,
      f_L_law_draw := fL_law_draw,
      fd_L_law_draw := PySem.W.fnOf "_law_draw" "_law_draw" (defArgs s_L_law_draw) (defBody s_L_law_draw) (defScope s_L_law_draw) .none kVL_law_draw dcL_law_draw pmL_law_draw anL_law_draw cdL_law_draw ctL_law_draw,
      f_L_law_windows := fL_law_windows,
      fd_L_law_windows := PySem.W.fnOf "_law_windows" "_law_windows" (defArgs s_L_law_windows) (defBody s_L_law_windows) (defScope s_L_law_windows) .none kVL_law_windows dcL_law_windows pmL_law_windows anL_law_windows cdL_law_windows ctL_law_windows,
      f_L_law_row := fL_law_row,
      fd_L_law_row := PySem.W.fnOf "_law_row" "_law_row" (defArgs s_L_law_row) (defBody s_L_law_row) (defScope s_L_law_row) .none kVL_law_row dcL_law_row pmL_law_row anL_law_row cdL_law_row ctL_law_row,
      f_L_law_some := fL_law_some,
      fd_L_law_some := PySem.W.fnOf "_law_some" "_law_some" (defArgs s_L_law_some) (defBody s_L_law_some) (defScope s_L_law_some) .none kVL_law_some dcL_law_some pmL_law_some anL_law_some cdL_law_some ctL_law_some,
      f_L_law_is_int := fL_law_is_int,
      fd_L_law_is_int := PySem.W.fnOf "_law_is_int" "_law_is_int" (defArgs s_L_law_is_int) (defBody s_L_law_is_int) (defScope s_L_law_is_int) .none kVL_law_is_int dcL_law_is_int pmL_law_is_int anL_law_is_int cdL_law_is_int ctL_law_is_int,
      f_L_law_regret := fL_law_regret,
      fd_L_law_regret := PySem.W.fnOf "_law_regret" "_law_regret" (defArgs s_L_law_regret) (defBody s_L_law_regret) (defScope s_L_law_regret) .none kVL_law_regret dcL_law_regret pmL_law_regret anL_law_regret cdL_law_regret ctL_law_regret,
      f_L_law_right := fL_law_right,
      fd_L_law_right := PySem.W.fnOf "_law_right" "_law_right" (defArgs s_L_law_right) (defBody s_L_law_right) (defScope s_L_law_right) .none kVL_law_right dcL_law_right pmL_law_right anL_law_right cdL_law_right ctL_law_right,
      f_L_law_order := fL_law_order,
      fd_L_law_order := PySem.W.fnOf "_law_order" "_law_order" (defArgs s_L_law_order) (defBody s_L_law_order) (defScope s_L_law_order) .none kVL_law_order dcL_law_order pmL_law_order anL_law_order (.ref cCL_law_order) ctL_law_order,
      cc_L_law_order := cCL_law_order,
      cp_L_law_order := cPL_law_order,
      f_law := fa,
      fd_law := PySem.W.fnOf "law" "law" (defArgs s_law) (defBody s_law) (defScope s_law) .none kVlaw dclaw pmlaw anlaw cdlaw ctlaw } := fun base TB =>
    { m_MiddleError := PySem.W.mg_of X G a_MiddleError,
      m_BadBook := PySem.W.mg_of X G a_BadBook,
      m_NoGroup := PySem.W.mg_of X G a_NoGroup,
      m_NoNumber := PySem.W.mg_of X G a_NoNumber,
      m_NoOrder := PySem.W.mg_of X G a_NoOrder,
      m_Book := PySem.W.mg_of X G a_Book,
      m_RawBook := PySem.W.mg_of X G a_RawBook,
      k_Book := ⟨pg_Book, hd_Book, po_Book, sa_Book⟩,
      k_RawBook := ⟨pg_RawBook, hd_RawBook, po_RawBook, sa_RawBook⟩,
      F_is_integer := fun_mk (st := s_is_integer) l_is_integer c_is_integer k_is_integer,
      b_is_integer := (fun_mk (st := s_is_integer) l_is_integer c_is_integer k_is_integer).binds (ps := ["thing"]) fun _ _ _ _ _ _ us hl => match us, hl with | [_], _ => rfl,
      m_is_integer := PySem.W.mg_of X G a_is_integer,
      F_is_within := fun_mk (st := s_is_within) l_is_within c_is_within k_is_within,
      b_is_within := (fun_mk (st := s_is_within) l_is_within c_is_within k_is_within).binds (ps := ["thing", "least", "most"]) fun _ _ _ _ _ _ us hl => match us, hl with | [_, _, _], _ => rfl,
      m_is_within := PySem.W.mg_of X G a_is_within,
      F_is_pair := fun_mk (st := s_is_pair) l_is_pair c_is_pair k_is_pair,
      b_is_pair := (fun_mk (st := s_is_pair) l_is_pair c_is_pair k_is_pair).binds (ps := ["thing"]) fun _ _ _ _ _ _ us hl => match us, hl with | [_], _ => rfl,
      m_is_pair := PySem.W.mg_of X G a_is_pair,
      F_are_ascending := fun_mk (st := s_are_ascending) l_are_ascending c_are_ascending k_are_ascending,
      b_are_ascending := (fun_mk (st := s_are_ascending) l_are_ascending c_are_ascending k_are_ascending).binds (ps := ["numbers"]) fun _ _ _ _ _ _ us hl => match us, hl with | [_], _ => rfl,
      m_are_ascending := PySem.W.mg_of X G a_are_ascending,
      F_is_window := fun_mk (st := s_is_window) l_is_window c_is_window k_is_window,
      b_is_window := (fun_mk (st := s_is_window) l_is_window c_is_window k_is_window).binds (ps := ["thing"]) fun _ _ _ _ _ _ us hl => match us, hl with | [_], _ => rfl,
      m_is_window := PySem.W.mg_of X G a_is_window,
      F_Book_init := fun_mk (st := s_Book_init) l_Book_init c_Book_init k_Book_init,
      b_Book_init := (fun_mk (st := s_Book_init) l_Book_init c_Book_init k_Book_init).binds (ps := ["self", "windows"]) fun _ _ _ _ _ _ us hl => match us, hl with | [_, _], _ => rfl,
      F_RawBook_init := fun_mk (st := s_RawBook_init) l_RawBook_init c_RawBook_init k_RawBook_init,
      b_RawBook_init := (fun_mk (st := s_RawBook_init) l_RawBook_init c_RawBook_init k_RawBook_init).binds (ps := ["self", "windows"]) fun _ _ _ _ _ _ us hl => match us, hl with | [_, _], _ => rfl,
      F_raw_book := fun_mk (st := s_raw_book) l_raw_book c_raw_book k_raw_book,
      b_raw_book := (fun_mk (st := s_raw_book) l_raw_book c_raw_book k_raw_book).binds (ps := ["windows"]) fun _ _ _ _ _ _ us hl => match us, hl with | [_], _ => rfl,
      m_raw_book := PySem.W.mg_of X G a_raw_book,
      F_many_of := fun_mk (st := s_many_of) l_many_of c_many_of k_many_of,
      b_many_of := (fun_mk (st := s_many_of) l_many_of c_many_of k_many_of).binds (ps := ["book"]) fun _ _ _ _ _ _ us hl => match us, hl with | [_], _ => rfl,
      m_many_of := PySem.W.mg_of X G a_many_of,
      F_first_of := fun_mk (st := s_first_of) l_first_of c_first_of k_first_of,
      b_first_of := (fun_mk (st := s_first_of) l_first_of c_first_of k_first_of).binds (ps := ["book", "work"]) fun _ _ _ _ _ _ us hl => match us, hl with | [_, _], _ => rfl,
      m_first_of := PySem.W.mg_of X G a_first_of,
      F_last_of := fun_mk (st := s_last_of) l_last_of c_last_of k_last_of,
      b_last_of := (fun_mk (st := s_last_of) l_last_of c_last_of k_last_of).binds (ps := ["book", "work"]) fun _ _ _ _ _ _ us hl => match us, hl with | [_, _], _ => rfl,
      m_last_of := PySem.W.mg_of X G a_last_of,
      F_is_work := fun_mk (st := s_is_work) l_is_work c_is_work k_is_work,
      b_is_work := (fun_mk (st := s_is_work) l_is_work c_is_work k_is_work).binds (ps := ["book", "thing"]) fun _ _ _ _ _ _ us hl => match us, hl with | [_, _], _ => rfl,
      m_is_work := PySem.W.mg_of X G a_is_work,
      F_is_row := fun_mk (st := s_is_row) l_is_row c_is_row k_is_row,
      b_is_row := (fun_mk (st := s_is_row) l_is_row c_is_row k_is_row).binds (ps := ["book", "thing"]) fun _ _ _ _ _ _ us hl => match us, hl with | [_, _], _ => rfl,
      m_is_row := PySem.W.mg_of X G a_is_row,
      F_is_order := fun_mk (st := s_is_order) l_is_order c_is_order k_is_order,
      b_is_order := (fun_mk (st := s_is_order) l_is_order c_is_order k_is_order).binds (ps := ["book", "thing"]) fun _ _ _ _ _ _ us hl => match us, hl with | [_, _], _ => rfl,
      m_is_order := PySem.W.mg_of X G a_is_order,
      F_is_group := fun_mk (st := s_is_group) l_is_group c_is_group k_is_group,
      b_is_group := (fun_mk (st := s_is_group) l_is_group c_is_group k_is_group).binds (ps := ["book", "thing"]) fun _ _ _ _ _ _ us hl => match us, hl with | [_, _], _ => rfl,
      m_is_group := PySem.W.mg_of X G a_is_group,
      F_check_order := fun_mk (st := s_check_order) l_check_order c_check_order k_check_order,
      b_check_order := (fun_mk (st := s_check_order) l_check_order c_check_order k_check_order).binds (ps := ["book", "thing"]) fun _ _ _ _ _ _ us hl => match us, hl with | [_, _], _ => rfl,
      m_check_order := PySem.W.mg_of X G a_check_order,
      F_check_group := fun_mk (st := s_check_group) l_check_group c_check_group k_check_group,
      b_check_group := (fun_mk (st := s_check_group) l_check_group c_check_group k_check_group).binds (ps := ["book", "thing"]) fun _ _ _ _ _ _ us hl => match us, hl with | [_, _], _ => rfl,
      m_check_group := PySem.W.mg_of X G a_check_group,
      F_part := fun_mk (st := s_part) l_part c_part k_part,
      b_part := (fun_mk (st := s_part) l_part c_part k_part).binds (ps := ["book", "group"]) fun _ _ _ _ _ _ us hl => match us, hl with | [_, _], _ => rfl,
      m_part := PySem.W.mg_of X G a_part,
      F_shifted := fun_mk (st := s_shifted) l_shifted c_shifted k_shifted,
      b_shifted := (fun_mk (st := s_shifted) l_shifted c_shifted k_shifted).binds (ps := ["book", "by"]) fun _ _ _ _ _ _ us hl => match us, hl with | [_, _], _ => rfl,
      m_shifted := PySem.W.mg_of X G a_shifted,
      F_mirrored := fun_mk (st := s_mirrored) l_mirrored c_mirrored k_mirrored,
      b_mirrored := (fun_mk (st := s_mirrored) l_mirrored c_mirrored k_mirrored).binds (ps := ["book"]) fun _ _ _ _ _ _ us hl => match us, hl with | [_], _ => rfl,
      m_mirrored := PySem.W.mg_of X G a_mirrored,
      FC_widest_of := funC_mk (st := s_widest_of) l_widest_of c_widest_of k_widest_of,
      B_widest_of := TB (cCwidest_of, cPwidest_of) (by simp),
      tu_widest_of := tu_widest_of,
      F_widest_of := fun_mk (st := s_widest_of) l_widest_of c_widest_of k_widest_of,
      b_widest_of := (fun_mk (st := s_widest_of) l_widest_of c_widest_of k_widest_of).binds (ps := ["book", "works"]) fun _ _ _ _ _ _ us hl => match us, hl with | [_, _], _ => rfl,
      m_widest_of := PySem.W.mg_of X G a_widest_of,
      F_worst_behind := fun_mk (st := s_worst_behind) l_worst_behind c_worst_behind k_worst_behind,
      b_worst_behind := (fun_mk (st := s_worst_behind) l_worst_behind c_worst_behind k_worst_behind).binds (ps := ["book", "row"]) fun _ _ _ _ _ _ us hl => match us, hl with | [_, _], _ => rfl,
      m_worst_behind := PySem.W.mg_of X G a_worst_behind,
      F_regret_in := fun_mk (st := s_regret_in) l_regret_in c_regret_in k_regret_in,
      b_regret_in := (fun_mk (st := s_regret_in) l_regret_in c_regret_in k_regret_in).binds (ps := ["book", "order"]) fun _ _ _ _ _ _ us hl => match us, hl with | [_, _], _ => rfl,
      m_regret_in := PySem.W.mg_of X G a_regret_in,
      F_regret := fun_mk (st := s_regret) l_regret c_regret k_regret,
      b_regret := (fun_mk (st := s_regret) l_regret c_regret k_regret).binds (ps := ["book", "order"]) fun _ _ _ _ _ _ us hl => match us, hl with | [_, _], _ => rfl,
      m_regret := PySem.W.mg_of X G a_regret,
      F_L_law_pool := fun_mk (st := s_L_law_pool) l_L_law_pool c_L_law_pool k_L_law_pool,
      b_L_law_pool := (fun_mk (st := s_L_law_pool) l_L_law_pool c_L_law_pool k_L_law_pool).binds (ps := ["_law_script"]) fun _ _ _ _ _ _ us hl => match us, hl with | [_], _ => rfl,
      m_L_law_pool := PySem.W.mg_of X G a_L_law_pool,
      F_L_law_draw := fun_mk (st := s_L_law_draw) l_L_law_draw c_L_law_draw k_L_law_draw,
      b_L_law_draw := (fun_mk (st := s_L_law_draw) l_L_law_draw c_L_law_draw k_L_law_draw).binds (ps := ["_law_pool_here", "_law_many"]) fun _ _ _ _ _ _ us hl => match us, hl with | [_, _], _ => rfl,
      m_L_law_draw := PySem.W.mg_of X G a_L_law_draw,
      F_L_law_windows := fun_mk (st := s_L_law_windows) l_L_law_windows c_L_law_windows k_L_law_windows,
      b_L_law_windows := (fun_mk (st := s_L_law_windows) l_L_law_windows c_L_law_windows k_L_law_windows).binds (ps := ["_law_pool_here", "_law_many", "_law_top"]) fun _ _ _ _ _ _ us hl => match us, hl with | [_, _, _], _ => rfl,
      m_L_law_windows := PySem.W.mg_of X G a_L_law_windows,
      F_L_law_row := fun_mk (st := s_L_law_row) l_L_law_row c_L_law_row k_L_law_row,
      b_L_law_row := (fun_mk (st := s_L_law_row) l_L_law_row c_L_law_row k_L_law_row).binds (ps := ["_law_pool_here", "_law_works"]) fun _ _ _ _ _ _ us hl => match us, hl with | [_, _], _ => rfl,
      m_L_law_row := PySem.W.mg_of X G a_L_law_row,
      F_L_law_some := fun_mk (st := s_L_law_some) l_L_law_some c_L_law_some k_L_law_some,
      b_L_law_some := (fun_mk (st := s_L_law_some) l_L_law_some c_L_law_some k_L_law_some).binds (ps := ["_law_pool_here", "_law_many"]) fun _ _ _ _ _ _ us hl => match us, hl with | [_, _], _ => rfl,
      m_L_law_some := PySem.W.mg_of X G a_L_law_some,
      F_L_law_is_int := fun_mk (st := s_L_law_is_int) l_L_law_is_int c_L_law_is_int k_L_law_is_int,
      b_L_law_is_int := (fun_mk (st := s_L_law_is_int) l_L_law_is_int c_L_law_is_int k_L_law_is_int).binds (ps := ["_law_thing"]) fun _ _ _ _ _ _ us hl => match us, hl with | [_], _ => rfl,
      m_L_law_is_int := PySem.W.mg_of X G a_L_law_is_int,
      F_L_law_regret := fun_mk (st := s_L_law_regret) l_L_law_regret c_L_law_regret k_L_law_regret,
      b_L_law_regret := (fun_mk (st := s_L_law_regret) l_L_law_regret c_L_law_regret k_L_law_regret).binds (ps := ["_law_windows_here", "_law_order_here"]) fun _ _ _ _ _ _ us hl => match us, hl with | [_, _], _ => rfl,
      m_L_law_regret := PySem.W.mg_of X G a_L_law_regret,
      F_L_law_right := fun_mk (st := s_L_law_right) l_L_law_right c_L_law_right k_L_law_right,
      b_L_law_right := (fun_mk (st := s_L_law_right) l_L_law_right c_L_law_right k_L_law_right).binds (ps := ["_law_book", "_law_order_here", "_law_due"]) fun _ _ _ _ _ _ us hl => match us, hl with | [_, _, _], _ => rfl,
      m_L_law_right := PySem.W.mg_of X G a_L_law_right,
      FC_L_law_order := funC_mk (st := s_L_law_order) l_L_law_order c_L_law_order k_L_law_order,
      B_L_law_order := TB (cCL_law_order, cPL_law_order) (by simp),
      tu_L_law_order := tu_L_law_order,
      F_L_law_order := fun_mk (st := s_L_law_order) l_L_law_order c_L_law_order k_L_law_order,
      b_L_law_order := (fun_mk (st := s_L_law_order) l_L_law_order c_L_law_order k_L_law_order).binds (ps := ["_law_pool_here", "_law_windows_here"]) fun _ _ _ _ _ _ us hl => match us, hl with | [_, _], _ => rfl,
      m_L_law_order := PySem.W.mg_of X G a_L_law_order,
      F_law := fun_mk (st := s_law) l_law c_law k_law,
      b_law := (fun_mk (st := s_law) l_law c_law k_law).binds (ps := ["_law_script"]) fun _ _ _ _ _ _ us hl => match us, hl with | [_], _ => rfl,
      m_law := PySem.W.mg_of X G a_law,
      mk_Book := ⟨mk_Book, a_Book_init, i_Book_init, kc_Book⟩,
      mk_RawBook := ⟨mk_RawBook, a_RawBook_init, i_RawBook_init, kc_RawBook⟩,
      n_Book_kept_windows := n_Book_kept_windows,
      n_Book_windows := n_Book_windows,
      n_RawBook_kept_windows := n_RawBook_kept_windows,
      n_RawBook_windows := n_RawBook_windows,
      z_abs := PySem.W.mg_none_of X G z_abs,
      z_all := PySem.W.mg_none_of X G z_all,
      z_any := PySem.W.mg_none_of X G z_any,
      z_bool := PySem.W.mg_none_of X G z_bool,
      z_int := PySem.W.mg_none_of X G z_int,
      z_isinstance := PySem.W.mg_none_of X G z_isinstance,
      z_len := PySem.W.mg_none_of X G z_len,
      z_list := PySem.W.mg_none_of X G z_list,
      z_max := PySem.W.mg_none_of X G z_max,
      z_min := PySem.W.mg_none_of X G z_min,
      z_range := PySem.W.mg_none_of X G z_range,
      z_set := PySem.W.mg_none_of X G z_set,
      z_sorted := PySem.W.mg_none_of X G z_sorted,
      z_sum := PySem.W.mg_none_of X G z_sum,
      z_tuple := PySem.W.mg_none_of X G z_tuple,
      z_zip := PySem.W.mg_none_of X G z_zip,
      g_MOST_HOUR := g_MOST_HOUR,
      g_MOST_WORKS := ⟨_, PySem.W.mg_of X G g_MOST_WORKS⟩,
      x_BadBook := x_BadBook,
      q_BadBook := q_BadBook,
      s_BadBook := s_BadBook,
      y_BadBook := y_BadBook,
      x_NoGroup := x_NoGroup,
      q_NoGroup := q_NoGroup,
      s_NoGroup := s_NoGroup,
      y_NoGroup := y_NoGroup,
      x_NoNumber := x_NoNumber,
      q_NoNumber := q_NoNumber,
      s_NoNumber := s_NoNumber,
      y_NoNumber := y_NoNumber,
      x_NoOrder := x_NoOrder,
      q_NoOrder := q_NoOrder,
      s_NoOrder := s_NoOrder,
      y_NoOrder := y_NoOrder }
  have z_widest_of := PySem.W.tab_of Tp X r_widest_of (tab_in a_widest_of l_widest_of rfl t1_widest_of t2_widest_of)
  have z_L_law_order := PySem.W.tab_of Tp X r_L_law_order (tab_in a_L_law_order l_L_law_order rfl t1_L_law_order t2_L_law_order)
  refine ⟨_, [(cCwidest_of, cPwidest_of), (cCL_law_order, cPL_law_order)], TT _, by
      intro p hp
      simp only [List.mem_cons, List.not_mem_nil, or_false] at hp
      rcases hp with rfl | rfl
      · exact z_widest_of.2
      · exact z_L_law_order.2, by
      intro p hp
      simp only [List.mem_cons, List.not_mem_nil, or_false] at hp
      rcases hp with rfl | rfl
      · exact nn_widest_of
      · exact nn_L_law_order, by
      intro p hp
      simp only [List.mem_cons, List.not_mem_nil, or_false] at hp
      rcases hp with rfl | rfl
      · exact z_widest_of.1
      · exact z_L_law_order.1, fun p hp => ?_, fun s v => .of_eq rfl, fun base _ _ TB => ok_law (T base TB)⟩
  · simp only [TT, List.mem_cons, List.not_mem_nil, or_false] at hp
    rcases hp with rfl | rfl <;> simp
theorem loose_MOST_HOUR {q : Program} {mg : Str → Option Value} {h : Heap} (x : PySem.W.XL q [("MOST_HOUR", PySem.W.WData.int 1000000)] mg h) : ∃ t, mg "MOST_HOUR" = some (.int 1000000 t) := by
  obtain ⟨v, a, b⟩ := x.2.val ("MOST_HOUR", PySem.W.WData.int 1000000) (by simp)
  cases b
  exact ⟨_, a⟩
end K72

open PySem PySem.W PyProof.Rows in
set_option maxRecDepth 100000 in
set_option maxHeartbeats 0 in
theorem PySem.Challenge.cw_bymiddles_k72_whole_regret_by_own_stretc_holds : PySem.Challenge.rw_bymiddles_k72_whole_regret_by_own_stretc.Holds := by
  w_on; o_law; k_head; (case hw => w_witness2)
  k_fill
  refine DL.walkT (l := PySem.Challenge.rw_bymiddles_k72_whole_regret_by_own_stretc) (k := 9) (x := "_law_script") (f := K72.f_lawK) rfl (by decide) rfl ⟨rfl, by decide, by decide⟩ (fun w h Y => PySem.W.km_in_of Y) ?F ?S
  case F =>
    intro w mg fa h KX Tp G XP hmg
    obtain ⟨lo, mean, mb, Tp⟩ := Tp
    refine' K72.all_mk KX G hmg Tp rfl rfl (K72.loose_MOST_HOUR XP) ?a_MiddleError ?a_BadBook ?a_NoGroup ?a_NoNumber ?a_NoOrder ?a_Book ?a_RawBook ?pg_Book ?hd_Book ?po_Book ?sa_Book ?pg_RawBook ?hd_RawBook ?po_RawBook ?sa_RawBook ?a_is_integer ?l_is_integer ?c_is_integer ?k_is_integer ?a_is_within ?l_is_within ?c_is_within ?k_is_within ?a_is_pair ?l_is_pair ?c_is_pair ?k_is_pair ?a_are_ascending ?l_are_ascending ?c_are_ascending ?k_are_ascending ?a_is_window ?l_is_window ?c_is_window ?k_is_window ?a_Book_init ?i_Book_init ?l_Book_init ?c_Book_init ?k_Book_init ?a_RawBook_init ?i_RawBook_init ?l_RawBook_init ?c_RawBook_init ?k_RawBook_init ?a_raw_book ?l_raw_book ?c_raw_book ?k_raw_book ?a_many_of ?l_many_of ?c_many_of ?k_many_of ?a_first_of ?l_first_of ?c_first_of ?k_first_of ?a_last_of ?l_last_of ?c_last_of ?k_last_of ?a_is_work ?l_is_work ?c_is_work ?k_is_work ?a_is_row ?l_is_row ?c_is_row ?k_is_row ?a_is_order ?l_is_order ?c_is_order ?k_is_order ?a_is_group ?l_is_group ?c_is_group ?k_is_group ?a_check_order ?l_check_order ?c_check_order ?k_check_order ?a_check_group ?l_check_group ?c_check_group ?k_check_group ?a_part ?l_part ?c_part ?k_part ?a_shifted ?l_shifted ?c_shifted ?k_shifted ?a_mirrored ?l_mirrored ?c_mirrored ?k_mirrored ?a_widest_of ?l_widest_of ?c_widest_of ?t1_widest_of ?t2_widest_of ?nn_widest_of ?k_widest_of ?a_worst_behind ?l_worst_behind ?c_worst_behind ?k_worst_behind ?a_regret_in ?l_regret_in ?c_regret_in ?k_regret_in ?a_regret ?l_regret ?c_regret ?k_regret ?a_L_law_pool ?l_L_law_pool ?c_L_law_pool ?k_L_law_pool ?a_L_law_draw ?l_L_law_draw ?c_L_law_draw ?k_L_law_draw ?a_L_law_windows ?l_L_law_windows ?c_L_law_windows ?k_L_law_windows ?a_L_law_row ?l_L_law_row ?c_L_law_row ?k_L_law_row ?a_L_law_some ?l_L_law_some ?c_L_law_some ?k_L_law_some ?a_L_law_is_int ?l_L_law_is_int ?c_L_law_is_int ?k_L_law_is_int ?a_L_law_regret ?l_L_law_regret ?c_L_law_regret ?k_L_law_regret ?a_L_law_right ?l_L_law_right ?c_L_law_right ?k_L_law_right ?a_L_law_order ?l_L_law_order ?c_L_law_order ?t1_L_law_order ?t2_L_law_order ?nn_L_law_order ?k_L_law_order ?a_law ?l_law ?c_law ?k_law ?mk_Book ?kc_Book ?mk_RawBook ?kc_RawBook ?n_Book_kept_windows ?n_Book_windows ?n_RawBook_kept_windows ?n_RawBook_windows ?z_abs ?z_all ?z_any ?z_bool ?z_int ?z_isinstance ?z_len ?z_list ?z_max ?z_min ?z_range ?z_set ?z_sorted ?z_sum ?z_tuple ?z_zip ?g_MOST_WORKS ?x_BadBook ?q_BadBook ?s_BadBook ?y_BadBook ?x_NoGroup ?q_NoGroup ?s_NoGroup ?y_NoGroup ?x_NoNumber ?q_NoNumber ?s_NoNumber ?y_NoNumber ?x_NoOrder ?q_NoOrder ?s_NoOrder ?y_NoOrder ?tu_widest_of ?tu_L_law_order
    (case a_MiddleError => k_is)
    (case a_BadBook => k_is)
    (case a_NoGroup => k_is)
    (case a_NoNumber => k_is)
    (case a_NoOrder => k_is)
    (case a_Book => k_is)
    (case a_RawBook => k_is)
    (case pg_Book => k_is)
    (case hd_Book => k_is)
    (case po_Book => k_is)
    (case sa_Book => k_is)
    (case pg_RawBook => k_is)
    (case hd_RawBook => k_is)
    (case po_RawBook => k_is)
    (case sa_RawBook => k_is)
    (case a_is_integer => k_is)
    (case l_is_integer => k_is)
    (case c_is_integer => k_is)
    (case k_is_integer => k_is)
    (case a_is_within => k_is)
    (case l_is_within => k_is)
    (case c_is_within => k_is)
    (case k_is_within => k_is)
    (case a_is_pair => k_is)
    (case l_is_pair => k_is)
    (case c_is_pair => k_is)
    (case k_is_pair => k_is)
    (case a_are_ascending => k_is)
    (case l_are_ascending => k_is)
    (case c_are_ascending => k_is)
    (case k_are_ascending => k_is)
    (case a_is_window => k_is)
    (case l_is_window => k_is)
    (case c_is_window => k_is)
    (case k_is_window => k_is)
    (case a_Book_init => k_is)
    (case i_Book_init => k_is)
    (case l_Book_init => k_is)
    (case c_Book_init => k_is)
    (case k_Book_init => k_is)
    (case a_RawBook_init => k_is)
    (case i_RawBook_init => k_is)
    (case l_RawBook_init => k_is)
    (case c_RawBook_init => k_is)
    (case k_RawBook_init => k_is)
    (case a_raw_book => k_is)
    (case l_raw_book => k_is)
    (case c_raw_book => k_is)
    (case k_raw_book => k_is)
    (case a_many_of => k_is)
    (case l_many_of => k_is)
    (case c_many_of => k_is)
    (case k_many_of => k_is)
    (case a_first_of => k_is)
    (case l_first_of => k_is)
    (case c_first_of => k_is)
    (case k_first_of => k_is)
    (case a_last_of => k_is)
    (case l_last_of => k_is)
    (case c_last_of => k_is)
    (case k_last_of => k_is)
    (case a_is_work => k_is)
    (case l_is_work => k_is)
    (case c_is_work => k_is)
    (case k_is_work => k_is)
    (case a_is_row => k_is)
    (case l_is_row => k_is)
    (case c_is_row => k_is)
    (case k_is_row => k_is)
    (case a_is_order => k_is)
    (case l_is_order => k_is)
    (case c_is_order => k_is)
    (case k_is_order => k_is)
    (case a_is_group => k_is)
    (case l_is_group => k_is)
    (case c_is_group => k_is)
    (case k_is_group => k_is)
    (case a_check_order => k_is)
    (case l_check_order => k_is)
    (case c_check_order => k_is)
    (case k_check_order => k_is)
    (case a_check_group => k_is)
    (case l_check_group => k_is)
    (case c_check_group => k_is)
    (case k_check_group => k_is)
    (case a_part => k_is)
    (case l_part => k_is)
    (case c_part => k_is)
    (case k_part => k_is)
    (case a_shifted => k_is)
    (case l_shifted => k_is)
    (case c_shifted => k_is)
    (case k_shifted => k_is)
    (case a_mirrored => k_is)
    (case l_mirrored => k_is)
    (case c_mirrored => k_is)
    (case k_mirrored => k_is)
    (case a_widest_of => k_is)
    (case l_widest_of => k_is)
    (case c_widest_of => k_is)
    (case t1_widest_of => k_is)
    (case t2_widest_of => rfl)
    (case nn_widest_of => kernel_rfl)
    (case k_widest_of => k_is)
    (case a_worst_behind => k_is)
    (case l_worst_behind => k_is)
    (case c_worst_behind => k_is)
    (case k_worst_behind => k_is)
    (case a_regret_in => k_is)
    (case l_regret_in => k_is)
    (case c_regret_in => k_is)
    (case k_regret_in => k_is)
    (case a_regret => k_is)
    (case l_regret => k_is)
    (case c_regret => k_is)
    (case k_regret => k_is)
    (case a_L_law_pool => k_is)
    (case l_L_law_pool => k_is)
    (case c_L_law_pool => k_is)
    (case k_L_law_pool => k_is)
    (case a_L_law_draw => k_is)
    (case l_L_law_draw => k_is)
    (case c_L_law_draw => k_is)
    (case k_L_law_draw => k_is)
    (case a_L_law_windows => k_is)
    (case l_L_law_windows => k_is)
    (case c_L_law_windows => k_is)
    (case k_L_law_windows => k_is)
    (case a_L_law_row => k_is)
    (case l_L_law_row => k_is)
    (case c_L_law_row => k_is)
    (case k_L_law_row => k_is)
    (case a_L_law_some => k_is)
    (case l_L_law_some => k_is)
    (case c_L_law_some => k_is)
    (case k_L_law_some => k_is)
    (case a_L_law_is_int => k_is)
    (case l_L_law_is_int => k_is)
    (case c_L_law_is_int => k_is)
    (case k_L_law_is_int => k_is)
    (case a_L_law_regret => k_is)
    (case l_L_law_regret => k_is)
    (case c_L_law_regret => k_is)
    (case k_L_law_regret => k_is)
    (case a_L_law_right => k_is)
    (case l_L_law_right => k_is)
    (case c_L_law_right => k_is)
    (case k_L_law_right => k_is)
    (case a_L_law_order => k_is)
    (case l_L_law_order => k_is)
    (case c_L_law_order => k_is)
    (case t1_L_law_order => k_is)
    (case t2_L_law_order => rfl)
    (case nn_L_law_order => kernel_rfl)
    (case k_L_law_order => k_is)
    (case a_law => k_is)
    (case l_law => k_is)
    (case c_law => k_is)
    (case k_law => k_is)
    (case mk_Book => k_is)
    (case kc_Book => k_is)
    (case mk_RawBook => k_is)
    (case kc_RawBook => k_is)
    (case n_Book_kept_windows => k_is)
    (case n_Book_windows => k_is)
    (case n_RawBook_kept_windows => k_is)
    (case n_RawBook_windows => k_is)
    (case z_abs => k_is)
    (case z_all => k_is)
    (case z_any => k_is)
    (case z_bool => k_is)
    (case z_int => k_is)
    (case z_isinstance => k_is)
    (case z_len => k_is)
    (case z_list => k_is)
    (case z_max => k_is)
    (case z_min => k_is)
    (case z_range => k_is)
    (case z_set => k_is)
    (case z_sorted => k_is)
    (case z_sum => k_is)
    (case z_tuple => k_is)
    (case z_zip => k_is)
    (case g_MOST_WORKS => k_is)
    (case x_BadBook => k_exc)
    (case q_BadBook => k_is)
    (case s_BadBook => k_is)
    (case y_BadBook => k_is)
    (case x_NoGroup => k_exc)
    (case q_NoGroup => k_is)
    (case s_NoGroup => k_is)
    (case y_NoGroup => k_is)
    (case x_NoNumber => k_exc)
    (case q_NoNumber => k_is)
    (case s_NoNumber => k_is)
    (case y_NoNumber => k_is)
    (case x_NoOrder => k_exc)
    (case q_NoOrder => k_is)
    (case s_NoOrder => k_is)
    (case y_NoOrder => k_is)
    (case tu_widest_of => (intro p hp h; simp only [List.mem_cons, List.not_mem_nil, or_false] at hp; rcases hp with rfl | rfl <;> first | (exact absurd h (by decide)) | rfl))
    (case tu_L_law_order => (intro p hp h; simp only [List.mem_cons, List.not_mem_nil, or_false] at hp; rcases hp with rfl | rfl <;> first | (exact absurd h (by decide)) | rfl))
  case S =>
    exact fun ns hl => ⟨ns, rfl, hl, rfl⟩

