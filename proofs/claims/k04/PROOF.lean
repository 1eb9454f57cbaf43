import PyProof.Rows.All
import Wide.All
import OpenK.AllK
import Wide.FinOn
import HandS.ForMost
import HandS.ForExc
import HandS.Wide
import HandS.Defaults
import HandS.CallSlots
import HandS.ExcInit
import HandS.OwnEq
import KE.GoesEnum
import HandS.Zip
import HandS.IsInst
import HandS.HeadHook2
import HandS.TupAny
import HandS.Text
import HandS.HeadNt
import HandS.ExcIs
import HandS.ExcField
import KE.KExcIs
import HandS.TryOnly
import HandS.RaiseMore
import HandS.Comp
import HandS.More
import HandS.Small
import HandS.Head0
import HandS.Head1
import HandS.Head2
import HandS.HeadEnd
import PySem.Challenge.RW_alignscripts_k04_ratio_refusals
set_option Elab.async false
set_option linter.all false
set_option maxRecDepth 100000
set_option maxHeartbeats 2000000
/-! L3: data behind values, a store of mutable objects, readings as functions on data. -/
namespace L3
open PySem PySem.Spec PyProof.Rows L2

/-- an exception's class: one of the text's, a built-in one -/
inductive XC where
  | own (c : Nat) | ty (n : String)
  deriving DecidableEq
/-- data: what a value stands for. tup, lst, ins: never changed any more; klst: a list of the script or of the text; fn: a def of the text, by its number; cell: an object that may change, by its place in the store; err: the exception that an except suite holds (in an environment alone) -/
inductive D where
  | non | bl (b : Bool) | int (i : Int) | str (x : Str) | ty (n : String) | fn (n : Nat)
  | tup (xs : List D) | lst (xs : List D) | klst (xs : List D) | ins (c : Nat) (vs : List D) | cell (i : Nat)
  | err (c : XC) (fs : Option (List D))

/-- what stands at a cell -/
inductive Cel where
  | lst (xs : List D) | ins (c : Nat) (vs : List D) | dct (kvs : List (Key × D))

abbrev Mu := List Cel
abbrev Env3 := List (Option D)

/-- the classes by number: where they stand, their fields' names in the order of their first store -/
structure Gx where
  cA : Nat → Addr
  fN : Nat → List Str
  gA : Nat → Addr
  xN : Nat → List Str := fun _ => []
  eA : Option (Nat × Addr × Value × Option Addr) := none

section
variable (K : PySem.W.Frag) (G : Gx)
mutual
inductive Rep : List Addr → Hp → V → D → Prop
  | non {ι M} : Rep ι M .non .non
  | bl {ι M b} : Rep ι M (.bl b) (.bl b)
  | int {ι M i} : Rep ι M (.int i) (.int i)
  | str {ι M x} : Rep ι M (.str x) (.str x)
  | ty {ι M n} : Rep ι M (.ty n) (.ty n)
  | fn {ι M n} : Rep ι M (.ref (G.gA n)) (.fn n)
  | tup {ι M a xs ds} : SqT K M a xs → Reps ι M xs ds → Rep ι M (.ref a) (.tup ds)
  | lst {ι M a xs ds} : M a = some (.lst xs) → Reps ι M xs ds → Rep ι M (.ref a) (.lst ds)
  | klst {ι M a xs ds} : SqL K M a xs → Reps ι M xs ds → Rep ι M (.ref a) (.klst ds)
  | ins {ι M a c dx vs ds} : M a = some (.ins (G.cA c) dx ((G.fN c).zip vs)) → vs.length ≤ (G.fN c).length → Reps ι M vs ds → Rep ι M (.ref a) (.ins c ds)
  | cell {ι M a i} : ι[i]? = some a → Rep ι M (.ref a) (.cell i)
inductive Reps : List Addr → Hp → List V → List D → Prop
  | nil {ι M} : Reps ι M [] []
  | cons {ι M v d vs ds} : Rep ι M v d → Reps ι M vs ds → Reps ι M (v :: vs) (d :: ds)
end

/-- nothing tracked is lost -/
abbrev Ex (M M' : Hp) : Prop := L2.Ext M M'
/-- longer by some at the end -/
def Pre (ι ι' : List Addr) : Prop := ∀ (i : Nat) (a : Addr), ι[i]? = some a → ι'[i]? = some a

theorem Pre.refl (ι : List Addr) : Pre ι ι := fun _ _ h => h
theorem Pre.trans {a b c : List Addr} (h : Pre a b) (k : Pre b c) : Pre a c := fun i x e => k i x (h i x e)
theorem Pre.app (ι l : List Addr) : Pre ι (ι ++ l) := fun i a e => by
  have := (List.getElem?_eq_some_iff.mp e).1
  rw [List.getElem?_append_left this]
  exact e
theorem Pre.len {a b : List Addr} (h : Pre a b) : a.length ≤ b.length := by
  rcases Nat.lt_or_ge b.length a.length with q | q
  · have e : a[b.length]? = some a[b.length] := List.getElem?_eq_getElem q
    have e2 := h _ _ e
    have := (List.getElem?_eq_some_iff.mp e2).1
    omega
  · exact q
theorem Pre.take {a b : List Addr} (h : Pre a b) : b.take a.length = a := by
  apply List.ext_getElem?
  intro i
  rw [List.getElem?_take]
  by_cases q : i < a.length
  · rw [if_pos q]
    rw [h i a[i] (List.getElem?_eq_getElem q)]
    exact (List.getElem?_eq_getElem q).symm
  · rw [if_neg q]
    exact (List.getElem?_eq_none_iff.mpr (by omega)).symm

mutual
theorem Rep.mono {K G} {ι ι' : List Addr} {M M' : Hp} (p : Pre ι ι') (x : Ex M M') : ∀ {v : V} {d : D}, Rep K G ι M v d → Rep K G ι' M' v d
  | _, _, .non => .non
  | _, _, .bl => .bl
  | _, _, .int => .int
  | _, _, .str => .str
  | _, _, .ty => .ty
  | _, _, .fn => .fn
  | _, _, .tup h r => .tup (h.ext x) (Reps.mono p x r)
  | _, _, .lst h r => .lst (x _ _ h) (Reps.mono p x r)
  | _, _, .klst h r => .klst (h.ext x) (Reps.mono p x r)
  | _, _, .ins h l r => .ins (x _ _ h) l (Reps.mono p x r)
  | _, _, .cell h => .cell (p _ _ h)
theorem Reps.mono {K G} {ι ι' : List Addr} {M M' : Hp} (p : Pre ι ι') (x : Ex M M') : ∀ {vs : List V} {ds : List D}, Reps K G ι M vs ds → Reps K G ι' M' vs ds
  | _, _, .nil => .nil
  | _, _, .cons h r => .cons (Rep.mono p x h) (Reps.mono p x r)
end
end

section
variable {K : PySem.W.Frag} {G : Gx} {ι ι' : List Addr} {M M' H H' : Hp}
theorem Reps.length : ∀ {vs : List V} {ds : List D}, Reps K G ι M vs ds → vs.length = ds.length
  | _, _, .nil => rfl
  | _, _, .cons _ r => congrArg Nat.succ r.length
theorem Reps.get : ∀ {vs : List V} {ds : List D} {i : Nat} {v : V}, Reps K G ι M vs ds → vs[i]? = some v → ∃ d, ds[i]? = some d ∧ Rep K G ι M v d
  | _, _, _, _, .nil, e => by simp at e
  | _, _, 0, _, .cons h _, e => by simp at e; subst e; exact ⟨_, rfl, h⟩
  | _, _, i + 1, v, .cons _ r, e => by
    obtain ⟨d, h1, h2⟩ := Reps.get (i := i) (v := v) r (by simpa using e)
    exact ⟨d, by simpa using h1, h2⟩
theorem Reps.getD : ∀ {vs : List V} {ds : List D} {i : Nat} {d : D}, Reps K G ι M vs ds → ds[i]? = some d → ∃ v, vs[i]? = some v ∧ Rep K G ι M v d
  | _, _, _, _, .nil, e => by simp at e
  | _, _, 0, _, .cons h _, e => by simp at e; subst e; exact ⟨_, rfl, h⟩
  | _, _, i + 1, d, .cons _ r, e => by
    obtain ⟨v, h1, h2⟩ := Reps.getD (i := i) (d := d) r (by simpa using e)
    exact ⟨v, by simpa using h1, h2⟩
theorem Reps.append : ∀ {vs ws : List V} {ds es : List D}, Reps K G ι M vs ds → Reps K G ι M ws es → Reps K G ι M (vs ++ ws) (ds ++ es)
  | _, _, _, _, .nil, s => s
  | _, _, _, _, .cons h r, s => .cons h (Reps.append r s)
theorem Reps.set : ∀ {vs : List V} {ds : List D} (i : Nat) {v : V} {d : D}, Rep K G ι M v d → Reps K G ι M vs ds → Reps K G ι M (vs.set i v) (ds.set i d)
  | _, _, _, _, _, _, .nil => .nil
  | _, _, 0, _, _, h, .cons _ r => .cons h r
  | _, _, i + 1, _, _, h, .cons q r => .cons q (Reps.set i h r)
theorem Reps.take : ∀ {vs : List V} {ds : List D} (n : Nat), Reps K G ι M vs ds → Reps K G ι M (vs.take n) (ds.take n)
  | _, _, 0, _ => .nil
  | _, _, _ + 1, .nil => .nil
  | _, _, n + 1, .cons h r => .cons h (Reps.take n r)
theorem Reps.drop : ∀ {vs : List V} {ds : List D} (n : Nat), Reps K G ι M vs ds → Reps K G ι M (vs.drop n) (ds.drop n)
  | _, _, 0, r => r
  | _, _, _ + 1, .nil => .nil
  | _, _, n + 1, .cons _ r => Reps.drop n r
theorem Reps.ints : ∀ (ns : List Int), Reps K G ι M (ns.map V.int) (ns.map D.int)
  | [] => .nil
  | _ :: r => .cons .int (Reps.ints r)

/-- what stands at a cell's address -/
def CelOk (K : PySem.W.Frag) (G : Gx) (ι : List Addr) (M H : Hp) (a : Addr) : Cel → Prop
  | .lst ds => ∃ xs, H a = some (.lst xs) ∧ Reps K G ι M xs ds
  | .ins c ds => ∃ dx vs, H a = some (.ins (G.cA c) dx ((G.fN c).zip vs)) ∧ vs.length ≤ (G.fN c).length ∧ Reps K G ι M vs ds
  | .dct kds => ∃ us, H a = some (.dK us) ∧ us.map (·.1) = kds.map (·.1) ∧ Reps K G ι M (us.map (·.2)) (kds.map (·.2))
theorem CelOk.mono {a : Addr} {c : Cel} (p : Pre ι ι') (x : Ex M M') (e : H' a = H a) (h : CelOk K G ι M H a c) : CelOk K G ι' M' H' a c := by
  cases c with
  | lst ds =>
    obtain ⟨xs, h1, r⟩ := h
    exact ⟨xs, e.trans h1, r.mono p x⟩
  | ins c ds =>
    obtain ⟨dx, vs, h1, l, r⟩ := h
    exact ⟨dx, vs, e.trans h1, l, r.mono p x⟩
  | dct kds =>
    obtain ⟨us, h1, h2, r⟩ := h
    exact ⟨us, e.trans h1, h2, r.mono p x⟩

/-- the store: M the part that never changes any more, ι where the cells stand -/
structure Sto (K : PySem.W.Frag) (G : Gx) (ι : List Addr) (M H : Hp) (μ : Mu) : Prop where
  fz : Ex M H
  len : ι.length = μ.length
  nd : ∀ (i j : Nat) (a : Addr), ι[i]? = some a → ι[j]? = some a → i = j
  at_ : ∀ (i : Nat) (a : Addr) (c : Cel), ι[i]? = some a → μ[i]? = some c → M a = none ∧ CelOk K G ι M H a c

theorem Sto.free {μ : Mu} (S : Sto K G ι M H μ) {p : Addr} (h : H p = none) : M p = none := by
  cases e : M p with
  | none => rfl
  | some o => rw [S.fz p o e] at h; cases h
theorem CelOk.some {a : Addr} {c : Cel} (h : CelOk K G ι M H a c) : ∃ o, H a = some o := by
  cases c with
  | lst ds => obtain ⟨xs, h1, _⟩ := h; exact ⟨_, h1⟩
  | ins c ds => obtain ⟨dx, vs, h1, _⟩ := h; exact ⟨_, h1⟩
  | dct kds => obtain ⟨us, h1, _⟩ := h; exact ⟨_, h1⟩
theorem Sto.at {μ : Mu} (S : Sto K G ι M H μ) {i : Nat} {a : Addr} (e : ι[i]? = some a) : ∃ c, μ[i]? = some c ∧ M a = none ∧ CelOk K G ι M H a c := by
  have l := (List.getElem?_eq_some_iff.mp e).1
  rw [S.len] at l
  exact ⟨μ[i], List.getElem?_eq_getElem l, S.at_ i a _ e (List.getElem?_eq_getElem l)⟩
theorem Sto.notCell {μ : Mu} (S : Sto K G ι M H μ) {p : Addr} (h : H p = none) {i : Nat} : ι[i]? ≠ some p := fun e => by
  obtain ⟨c, _, _, k⟩ := S.at e
  obtain ⟨o, q⟩ := k.some
  rw [h] at q
  cases q
/-- a new object that never changes -/
theorem Sto.frozen {μ : Mu} {o : HO} (S : Sto K G ι M H μ) {p : Addr} (h : H p = none) : Sto K G ι (upd M p o) (upd H p o) μ where
  fz := fun a u e => by
    by_cases q : a = p
    · subst q; rw [upd_same] at e ⊢; exact e
    · rw [upd_ne q] at e ⊢; exact S.fz a u e
  len := S.len
  nd := S.nd
  at_ := fun i a c e1 e2 => by
    obtain ⟨h1, h2⟩ := S.at_ i a c e1 e2
    have q : a ≠ p := fun z => S.notCell h (z ▸ e1)
    exact ⟨by rw [upd_ne q]; exact h1, h2.mono (Pre.refl _) (Ext.upd (S.free h)) (upd_ne q)⟩
/-- new, not tracked by the store -/
theorem Sto.grown {μ : Mu} (S : Sto K G ι M H μ) (x : Ex H H') : Sto K G ι M H' μ where
  fz := fun a u e => x a u (S.fz a u e)
  len := S.len
  nd := S.nd
  at_ := fun i a c e1 e2 => by
    obtain ⟨h1, h2⟩ := S.at_ i a c e1 e2
    obtain ⟨o, q⟩ := h2.some
    exact ⟨h1, h2.mono (Pre.refl _) Ext.rfl' ((x a o q).trans q.symm)⟩
/-- a new cell -/
theorem Sto.cell {μ : Mu} {o : HO} {c : Cel} (S : Sto K G ι M H μ) {p : Addr} (h : H p = none) (k : CelOk K G (ι ++ [p]) M (upd H p o) p c) : Sto K G (ι ++ [p]) M (upd H p o) (μ ++ [c]) where
  fz := fun a u e => by
    have q : a ≠ p := fun z => by rw [z, S.free h] at e; cases e
    rw [upd_ne q]
    exact S.fz a u e
  len := by simp [S.len]
  nd := fun i j a e1 e2 => by
    have key : ∀ (i : Nat) (a : Addr), (ι ++ [p])[i]? = some a → (i < ι.length ∧ ι[i]? = some a) ∨ (i = ι.length ∧ a = p) := fun i a e => by
      rcases Nat.lt_or_ge i ι.length with q | q
      · rw [List.getElem?_append_left q] at e
        exact .inl ⟨q, e⟩
      · rw [List.getElem?_append_right q] at e
        have l := (List.getElem?_eq_some_iff.mp e).1
        have z : i - ι.length = 0 := by simp at l; omega
        rw [z] at e
        simp at e
        exact .inr ⟨by omega, e.symm⟩
    rcases key i a e1 with ⟨q, r⟩ | ⟨q, r⟩ <;> rcases key j a e2 with ⟨q', r'⟩ | ⟨q', r'⟩
    · exact S.nd i j a r r'
    · exact absurd (r' ▸ r) (S.notCell h)
    · exact absurd (r ▸ r') (S.notCell h)
    · omega
  at_ := fun i a c' e1 e2 => by
    rcases Nat.lt_or_ge i ι.length with q | q
    · rw [List.getElem?_append_left q] at e1
      rw [List.getElem?_append_left (by rw [← S.len]; exact q)] at e2
      obtain ⟨h1, h2⟩ := S.at_ i a c' e1 e2
      have q : a ≠ p := fun z => S.notCell h (z ▸ e1)
      exact ⟨h1, h2.mono (Pre.app _ _) Ext.rfl' (upd_ne q)⟩
    · have l := (List.getElem?_eq_some_iff.mp e1).1
      have z : i = ι.length := by simp at l; omega
      subst z
      rw [List.getElem?_append_right (Nat.le_refl _)] at e1
      rw [S.len, List.getElem?_append_right (Nat.le_refl _)] at e2
      simp at e1 e2
      subst e1
      subst e2
      exact ⟨S.free h, k⟩
/-- a cell is written -/
theorem Sto.write {μ : Mu} {o : HO} {c : Cel} (S : Sto K G ι M H μ) {i : Nat} {p : Addr} (e : ι[i]? = some p) (k : CelOk K G ι M (upd H p o) p c) : Sto K G ι M (upd H p o) (μ.set i c) where
  fz := fun a u q => by
    obtain ⟨_, _, h1, _⟩ := S.at e
    have ne : a ≠ p := fun z => by rw [z, h1] at q; cases q
    rw [upd_ne ne]
    exact S.fz a u q
  len := by simp [S.len]
  nd := S.nd
  at_ := fun j a c' e1 e2 => by
    obtain ⟨_, _, h1, _⟩ := S.at e
    by_cases q : a = p
    · subst q
      have z : j = i := S.nd j i a e1 e
      subst z
      have l := (List.getElem?_eq_some_iff.mp e).1
      rw [List.getElem?_set_self (by rw [← S.len]; exact l)] at e2
      cases e2
      exact ⟨h1, k⟩
    · have ne : j ≠ i := fun z => by rw [z, e] at e1; exact q (Option.some.inj e1).symm
      rw [List.getElem?_set_ne (Ne.symm ne)] at e2
      obtain ⟨g1, g2⟩ := S.at_ j a c' e1 e2
      exact ⟨g1, g2.mono (Pre.refl _) Ext.rfl' (upd_ne q)⟩
end

/-! ### results -/
def xv (G : Gx) : XC → Value
  | .own c => .ref (G.cA c)
  | .ty n => .type n
inductive Res (α : Type) where
  | ok (a : α) (m : Mu) | exc (c : XC) (fs : Option (List D)) (m : Mu) | stuck
abbrev PM (α : Type) := Mu → Res α
def Res.bind {α β : Type} (r : Res α) (g : α → Mu → Res β) : Res β := match r with
  | .ok a m => g a m
  | .exc c fs m => .exc c fs m
  | .stuck => .stuck
/-- a state that comes later -/
structure Nx (K : PySem.W.Frag) (G : Gx) (ι : List Addr) (M : Hp) (ι' : List Addr) (M' H' : Hp) (μ' : Mu) : Prop where
  pre : Pre ι ι'
  ext : Ex M M'
  sto : Sto K G ι' M' H' μ'
/-- the dict of an exception -/
def XdOk (K : PySem.W.Frag) (G : Gx) (ι : List Addr) (M : Hp) : XC → Option (List D) → Option Addr → Prop
  | _, none, dx => dx = none
  | .own c, some ds, dx => ∃ a us, dx = some a ∧ M a = some (.xd us) ∧ ds.length = (G.xN c).length ∧ ∀ (j : Nat) (x : Str) (d : D), (G.xN c)[j]? = some x → ds[j]? = some d → ∃ v, us.lookup x = some v ∧ Rep K G ι M v d
  | .ty _, some _, _ => False
/-- what a result asks: P at its value, the wish W at its exception -/
def Fin3 (K : PySem.W.Frag) (G : Gx) (W : WX) (σ : L2.St) (ι : List Addr) (M : Hp) {α : Type} (r : Res α) (P : List Addr → Hp → Hp → Mu → α → Prop) : Prop := match r with
  | .ok a μ' => ∀ ι' M' H', Nx K G ι M ι' M' H' μ' → P ι' M' H' μ' a
  | .exc c fs μ' => ∀ ι' M' H' dx, Nx K G ι M ι' M' H' μ' → XdOk K G ι' M' c fs dx → W (xv G c) dx σ H'
  | .stuck => False
section
variable {K : PySem.W.Frag} {G : Gx} {ι ι' : List Addr} {M M' H H' : Hp} {W : WX} {σ : L2.St} {α β : Type}
theorem Nx.refl {μ : Mu} (S : Sto K G ι M H μ) : Nx K G ι M ι M H μ := ⟨Pre.refl _, Ext.rfl', S⟩
theorem Nx.after {μ' : Mu} {ι2 : List Addr} {M2 H2 : Hp} (p : Pre ι ι') (x : Ex M M') (n : Nx K G ι' M' ι2 M2 H2 μ') : Nx K G ι M ι2 M2 H2 μ' := ⟨p.trans n.pre, x.trans n.ext, n.sto⟩
theorem Fin3.mono {r : Res α} {P : List Addr → Hp → Hp → Mu → α → Prop} (p : Pre ι ι') (x : Ex M M') (h : Fin3 K G W σ ι M r P) : Fin3 K G W σ ι' M' r P := by
  cases r with
  | ok a m => exact fun i2 m2 h2 n => h i2 m2 h2 (n.after p x)
  | exc c fs m => exact fun i2 m2 h2 dx n => h i2 m2 h2 dx (n.after p x)
  | stuck => exact h
theorem Fin3.imp {r : Res α} {P Q : List Addr → Hp → Hp → Mu → α → Prop} (h : Fin3 K G W σ ι M r P) (k : ∀ ι' M' H' μ' a, Pre ι ι' → Ex M M' → Sto K G ι' M' H' μ' → P ι' M' H' μ' a → Q ι' M' H' μ' a) : Fin3 K G W σ ι M r Q := by
  cases r with
  | ok a m => exact fun i2 m2 h2 n => k _ _ _ _ _ n.pre n.ext n.sto (h i2 m2 h2 n)
  | exc c fs m => exact h
  | stuck => exact h
theorem Fin3.bind {r : Res α} {g : α → Mu → Res β} {P : List Addr → Hp → Hp → Mu → β → Prop} (h : Fin3 K G W σ ι M (r.bind g) P) : Fin3 K G W σ ι M r (fun ι' M' _ μ' a => Fin3 K G W σ ι' M' (g a μ') P) := by
  cases r with
  | ok a m => exact fun i2 m2 h2 n => Fin3.mono n.pre n.ext h
  | exc c fs m => exact h
  | stuck => exact h
/-- at once -/
theorem Fin3.ok {a : α} {μ : Mu} {P : List Addr → Hp → Hp → Mu → α → Prop} (h : Fin3 K G W σ ι M (.ok a μ) P) (S : Sto K G ι M H μ) : P ι M H μ a := h ι M H (Nx.refl S)
theorem Fin3.at {a : α} {μ : Mu} {P : List Addr → Hp → Hp → Mu → α → Prop} (h : Fin3 K G W σ ι M (.ok a μ) P) (p : Pre ι ι') (x : Ex M M') (S : Sto K G ι' M' H' μ) : P ι' M' H' μ a := h ι' M' H' ⟨p, x, S⟩
end

/-! ### environments -/
/-- a slot: a value by its data, or the exception in hand -/
def RepE (K : PySem.W.Frag) (G : Gx) (ι : List Addr) (M : Hp) (i : Nat) (v : V) (d : D) : Prop :=
  Rep K G ι M v d ∨ ∃ c fs a dx, d = .err c fs ∧ v = .ref a ∧ G.eA = some (i, a, xv G c, dx) ∧ XdOk K G ι M c fs dx
def REnv (K : PySem.W.Frag) (G : Gx) (ι : List Addr) (M : Hp) (σ : L2.St) (δ : Env3) : Prop :=
  σ.length = δ.length ∧ ∀ (i : Nat) (d : D), δ[i]? = some (some d) → ∃ v, σ[i]? = some (some v) ∧ RepE K G ι M i v d
section
variable {K : PySem.W.Frag} {G : Gx} {ι ι' : List Addr} {M M' : Hp} {σ : L2.St} {δ : Env3}
theorem XdOk.mono {c : XC} {fs : Option (List D)} {dx : Option Addr} (p : Pre ι ι') (x : Ex M M') (h : XdOk K G ι M c fs dx) : XdOk K G ι' M' c fs dx := by
  cases fs with
  | none => cases c <;> exact h
  | some ds =>
    cases c with
    | own c =>
      obtain ⟨a, us, h1, h2, h3, h4⟩ := h
      exact ⟨a, us, h1, x _ _ h2, h3, fun j y d e1 e2 => let ⟨v, q1, q2⟩ := h4 j y d e1 e2; ⟨v, q1, q2.mono p x⟩⟩
    | ty n => exact h
theorem RepE.mono {i : Nat} {v : V} {d : D} (p : Pre ι ι') (x : Ex M M') (h : RepE K G ι M i v d) : RepE K G ι' M' i v d := by
  rcases h with h | ⟨c, fs, a, dx, h1, h2, h3, h4⟩
  · exact .inl (h.mono p x)
  · exact .inr ⟨c, fs, a, dx, h1, h2, h3, h4.mono p x⟩
theorem REnv.mono (h : REnv K G ι M σ δ) (p : Pre ι ι') (x : Ex M M') : REnv K G ι' M' σ δ := ⟨h.1, fun i d e => let ⟨v, a, b⟩ := h.2 i d e; ⟨v, a, b.mono p x⟩⟩
theorem REnv.setE (h : REnv K G ι M σ δ) {i : Nat} {v : V} {d : D} (r : RepE K G ι M i v d) : REnv K G ι M (σ.set i (some v)) (δ.set i (some d)) := ⟨by simp [h.1], fun j e q => by
  by_cases z : i = j
  · subst z
    by_cases l : i < δ.length
    · rw [List.getElem?_set_self l] at q
      cases q
      exact ⟨v, by rw [List.getElem?_set_self (by rw [h.1]; exact l)], r⟩
    · rw [List.getElem?_eq_none (by simpa using Nat.le_of_not_lt l)] at q
      cases q
  · rw [List.getElem?_set_ne z] at q ⊢
    exact h.2 j e q⟩
theorem REnv.set (h : REnv K G ι M σ δ) {i : Nat} {v : V} {d : D} (r : Rep K G ι M v d) : REnv K G ι M (σ.set i (some v)) (δ.set i (some d)) := h.setE (.inl r)
theorem REnv.unset (h : REnv K G ι M σ δ) {i : Nat} : REnv K G ι M (σ.set i none) (δ.set i none) := ⟨by simp [h.1], fun j e q => by
  by_cases z : i = j
  · subst z
    by_cases l : i < δ.length
    · rw [List.getElem?_set_self l] at q
      cases q
    · rw [List.getElem?_eq_none (by simpa using Nat.le_of_not_lt l)] at q
      cases q
  · rw [List.getElem?_set_ne z] at q ⊢
    exact h.2 j e q⟩
theorem REnv.unsetD (h : REnv K G ι M σ δ) {i : Nat} : REnv K G ι M σ (δ.set i none) := ⟨by simp [h.1], fun j e q => by
  by_cases z : i = j
  · subst z
    by_cases l : i < δ.length
    · rw [List.getElem?_set_self l] at q
      cases q
    · rw [List.getElem?_eq_none (by simpa using Nat.le_of_not_lt l)] at q
      cases q
  · rw [List.getElem?_set_ne z] at q
    exact h.2 j e q⟩
theorem REnv.start {N : List Str} {vs : List V} {ds : List D} (r : Reps K G ι M vs ds) : REnv K G ι M (start N vs) (ds.map some ++ List.replicate (N.length - ds.length) none) := by
  have l := r.length
  refine ⟨by unfold L2.start; simp [l], fun i d e => ?_⟩
  rcases Nat.lt_or_ge i ds.length with q | q
  · rw [List.getElem?_append_left (by simpa using q), List.getElem?_map] at e
    cases z : ds[i]? with
    | none => rw [z] at e; cases e
    | some d' =>
      rw [z] at e
      cases e
      obtain ⟨v, h1, h2⟩ := r.getD z
      exact ⟨v, by unfold L2.start; rw [List.getElem?_append_left (by simp; omega), List.getElem?_map, h1]; rfl, .inl h2⟩
  · rw [List.getElem?_append_right (by simpa using q), List.getElem?_replicate] at e
    split at e <;> cases e
end

/-! ### readings -/
abbrev FE := Env3 → PM D
abbrev FT := Env3 → PM Bool
abbrev FA := Env3 → PM (List D)
inductive RS where
  | nx (δ : Env3) (m : Mu) | ret (d : D) (m : Mu) | brk (δ : Env3) (m : Mu) | ct (δ : Env3) (m : Mu) | exc (c : XC) (fs : Option (List D)) (δ : Env3) (m : Mu) | stuck
abbrev FS := Env3 → Mu → RS
section
variable (K : PySem.W.Frag) (G : Gx) (W : WX)
def tE (F : FE) : TE := fun σ H Q => ∃ ι M δ μ, Sto K G ι M H μ ∧ REnv K G ι M σ δ ∧ Fin3 K G W σ ι M (F δ μ) (fun ι' M' H' _ d => ∀ v, Rep K G ι' M' v d → Q v H')
def tT (F : FT) : TT := fun σ H Q => ∃ ι M δ μ, Sto K G ι M H μ ∧ REnv K G ι M σ δ ∧ Fin3 K G W σ ι M (F δ μ) (fun _ _ H' _ b => Q b H')
def tA (F : FA) : TA := fun σ H Q => ∃ ι M δ μ, Sto K G ι M H μ ∧ REnv K G ι M σ δ ∧ Fin3 K G W σ ι M (F δ μ) (fun ι' M' H' _ ds => ∀ vs, Reps K G ι' M' vs ds → Q vs H')
def FinS (ι : List Addr) (M : Hp) (r : RS) (E : Ends) : Prop := match r with
  | .nx δ μ => ∀ ι' M' H' σ', Nx K G ι M ι' M' H' μ → REnv K G ι' M' σ' δ → E.nx σ' H'
  | .ret d μ => ∀ ι' M' H' v, Nx K G ι M ι' M' H' μ → Rep K G ι' M' v d → E.rt v H'
  | .brk δ μ => ∀ ι' M' H' σ', Nx K G ι M ι' M' H' μ → REnv K G ι' M' σ' δ → E.bk σ' H'
  | .ct δ μ => ∀ ι' M' H' σ', Nx K G ι M ι' M' H' μ → REnv K G ι' M' σ' δ → E.ct σ' H'
  | .exc c fs δ μ => ∀ ι' M' H' σ' dx, Nx K G ι M ι' M' H' μ → REnv K G ι' M' σ' δ → XdOk K G ι' M' c fs dx → W (xv G c) dx σ' H'
  | .stuck => False
def tS (F : FS) : TS := fun E σ H => ∃ ι M δ μ, Sto K G ι M H μ ∧ REnv K G ι M σ δ ∧ FinS K G W ι M (F δ μ) E
end
section
variable {K : PySem.W.Frag} {G : Gx} {W : WX} {ι ι' : List Addr} {M M' H : Hp}
theorem FinS.mono {r : RS} {E : Ends} (p : Pre ι ι') (x : Ex M M') (h : FinS K G W ι M r E) : FinS K G W ι' M' r E := by
  cases r with
  | nx δ μ => exact fun i2 m2 h2 s2 n => h i2 m2 h2 s2 (n.after p x)
  | ret d μ => exact fun i2 m2 h2 s2 n => h i2 m2 h2 s2 (n.after p x)
  | brk δ μ => exact fun i2 m2 h2 s2 n => h i2 m2 h2 s2 (n.after p x)
  | ct δ μ => exact fun i2 m2 h2 s2 n => h i2 m2 h2 s2 (n.after p x)
  | exc c fs δ μ => exact fun i2 m2 h2 s2 dx n => h i2 m2 h2 s2 dx (n.after p x)
  | stuck => exact h
/-- an expression's result turned into a statement's -/
def Res.toS {α : Type} (r : Res α) (δ : Env3) (g : α → Mu → RS) : RS := match r with
  | .ok a m => g a m
  | .exc c fs m => .exc c fs δ m
  | .stuck => .stuck
theorem FinS.ofE {α : Type} {σ : L2.St} {δ : Env3} {r : Res α} {g : α → Mu → RS} {E : Ends} (re : REnv K G ι M σ δ) (h : FinS K G W ι M (r.toS δ g) E) : Fin3 K G W σ ι M r (fun ι' M' _ μ' a => FinS K G W ι' M' (g a μ') E) := by
  cases r with
  | ok a m => exact fun i2 m2 h2 n => FinS.mono n.pre n.ext h
  | exc c fs m => exact fun i2 m2 h2 dx n xd => h i2 m2 h2 σ dx n (re.mono n.pre n.ext) xd
  | stuck => exact h
/-- the flow behind a statement -/
def RS.seq (r : RS) (g : Env3 → Mu → RS) : RS := match r with
  | .nx δ m => g δ m
  | .ret d m => .ret d m
  | .brk δ m => .brk δ m
  | .ct δ m => .ct δ m
  | .exc c fs δ m => .exc c fs δ m
  | .stuck => .stuck
theorem FinS.seq {r : RS} {g : FS} {E : Ends} (h : FinS K G W ι M (r.seq g) E) : FinS K G W ι M r { E with nx := tS K G W g E } := by
  cases r with
  | nx δ μ => exact fun i2 m2 h2 s2 n re => ⟨i2, m2, δ, μ, n.sto, re, FinS.mono n.pre n.ext h⟩
  | ret d μ => exact h
  | brk δ μ => exact h
  | ct δ μ => exact h
  | exc c fs δ μ => exact h
  | stuck => exact h
end
end L3

set_option maxRecDepth 100000
set_option maxHeartbeats 2000000
namespace L3
open PySem PySem.Spec PyProof.Rows L2

section
variable {X : Cx} {e : Expr} {st : Stmt} {sts : List Stmt} {es : List Expr}
theorem pe_imp {t t' : TE} (h : PE X e t) (k : ∀ σ H Q, t' σ H Q → t σ H Q) : PE X e t' := ⟨fun pins s σ H Q I q => h.run pins s σ H Q I (k σ H Q q)⟩
theorem pt_imp {t t' : TT} (h : PT X e t) (k : ∀ σ H Q, t' σ H Q → t σ H Q) : PT X e t' := ⟨fun pins s σ H Q I q => h.run pins s σ H Q I (k σ H Q q)⟩
theorem pa_imp {t t' : TA} (h : PA X es t) (k : ∀ σ H Q, t' σ H Q → t σ H Q) : PA X es t' := ⟨fun pos pins s σ H Q I q => h.run pos pins s σ H Q I (k σ H Q q)⟩
theorem ps_imp {t t' : TS} (h : PS X st t) (k : ∀ D σ H, t' D σ H → t D σ H) : PS X st t' := ⟨fun pins s σ H D I q => h.run pins s σ H D I (k D σ H q)⟩
theorem pss_imp {t t' : TS} (h : PSs X sts t) (k : ∀ D σ H, t' D σ H → t D σ H) : PSs X sts t' := ⟨fun pins s σ H D I q => h.run pins s σ H D I (k D σ H q)⟩
end
abbrev E3 (X : Cx) (G : Gx) (W : WX) (e : Expr) (F : FE) : Prop := PE X e (tE X.K G W F)
abbrev T3 (X : Cx) (G : Gx) (W : WX) (e : Expr) (F : FT) : Prop := PT X e (tT X.K G W F)
abbrev A3 (X : Cx) (G : Gx) (W : WX) (es : List Expr) (F : FA) : Prop := PA X es (tA X.K G W F)
abbrev S3 (X : Cx) (G : Gx) (W : WX) (s : Stmt) (F : FS) : Prop := PS X s (tS X.K G W F)
abbrev B3 (X : Cx) (G : Gx) (W : WX) (s : List Stmt) (F : FS) : Prop := PSs X s (tS X.K G W F)

section
variable {K : PySem.W.Frag} {G : Gx} {ι ι' : List Addr} {M M' H H' : Hp} {v : V}
theorem rep_non (h : Rep K G ι M v .non) : v = .non := by cases h; rfl
theorem rep_int {i : Int} (h : Rep K G ι M v (.int i)) : v = .int i := by cases h; rfl
theorem rep_bl {b : Bool} (h : Rep K G ι M v (.bl b)) : v = .bl b := by cases h; rfl
theorem rep_str {x : Str} (h : Rep K G ι M v (.str x)) : v = .str x := by cases h; rfl
theorem rep_tup {ds : List D} (h : Rep K G ι M v (.tup ds)) : ∃ a xs, v = .ref a ∧ SqT K M a xs ∧ Reps K G ι M xs ds := by
  cases h with
  | tup h r => exact ⟨_, _, rfl, h, r⟩
theorem rep_lst {ds : List D} (h : Rep K G ι M v (.lst ds)) : ∃ a xs, v = .ref a ∧ M a = some (.lst xs) ∧ Reps K G ι M xs ds := by
  cases h with
  | lst h r => exact ⟨_, _, rfl, h, r⟩
theorem rep_klst {ds : List D} (h : Rep K G ι M v (.klst ds)) : ∃ a xs, v = .ref a ∧ SqL K M a xs ∧ Reps K G ι M xs ds := by
  cases h with
  | klst h r => exact ⟨_, _, rfl, h, r⟩
theorem rep_ins {c : Nat} {ds : List D} (h : Rep K G ι M v (.ins c ds)) : ∃ a dx vs, v = .ref a ∧ M a = some (.ins (G.cA c) dx ((G.fN c).zip vs)) ∧ vs.length ≤ (G.fN c).length ∧ Reps K G ι M vs ds := by
  cases h with
  | ins h l r => exact ⟨_, _, _, rfl, h, l, r⟩
theorem rep_cell {i : Nat} (h : Rep K G ι M v (.cell i)) : ∃ a, v = .ref a ∧ ι[i]? = some a := by
  cases h with
  | cell h => exact ⟨_, rfl, h⟩
theorem rep_fn {n : Nat} (h : Rep K G ι M v (.fn n)) : v = .ref (G.gA n) := by cases h; rfl
end

/-! ### names, constants -/
@[reducible] def dVar (i : Nat) : FE := fun δ μ => match δ[i]? with
  | some (some d) => .ok d μ
  | _ => .stuck
@[reducible] def dC (d : D) : FE := fun _ μ => .ok d μ
section
variable {X : Cx} {G : Gx} {W : WX}
theorem e_of {e : Expr} {te : TE} {i : Nat} (hE : ∀ z, G.eA ≠ some (i, z)) (h : PE X e te) (k : ∀ σ H Q v, σ[i]? = some (some v) → Q v H → te σ H Q) : E3 X G W e (dVar i) := pe_imp h fun σ H Q ⟨ι, M, δ, μ, S, R, f⟩ => by
  unfold dVar at f
  cases q : δ[i]? with
  | none => rw [q] at f; exact f.elim
  | some o =>
    rw [q] at f
    cases o with
    | none => exact f.elim
    | some d =>
      obtain ⟨v, h1, h2⟩ := R.2 i d q
      have h2 := h2.resolve_right fun ⟨_, _, _, _, _, _, z, _⟩ => hE _ z
      exact k σ H Q v h1 (f ι M H (Nx.refl S) v h2)
theorem ev (i : Nat) {x : Str} {pos : Pos} (hE : ∀ z, G.eA ≠ some (i, z)) (hN : X.N[i]? = some x := by rfl) (hv : Vis X.env.scope x := by first | exact Or.inl rfl | exact Or.inr (Or.inl rfl) | exact Or.inr (Or.inr rfl)) (hd : (x == ("__debug__" : Str)) = false := by decide)
    (hcd : (x == ("__classdict__" : Str)) = false := by decide) : E3 X G W (.Name x pos) (dVar i) := e_of hE (pe_var hN hv hd hcd) fun _ _ _ v h q => ⟨v, h, q⟩
theorem e_const {e : Expr} {v : V} {d : D} (h : PE X e (tC v)) (r : ∀ ι M, Rep X.K G ι M v d) : E3 X G W e (dC d) := pe_imp h fun σ H Q ⟨ι, M, δ, μ, S, R, f⟩ => f ι M H (Nx.refl S) v (r ι M)
theorem e_int {i j pos} : E3 X G W (.Constant (.int i) j pos) (dC (.int i)) := e_const pe_int fun _ _ => .int
theorem e_bl {b j pos} : E3 X G W (.Constant (.bool b) j pos) (dC (.bl b)) := e_const pe_bl fun _ _ => .bl
theorem e_non {j pos} : E3 X G W (.Constant .none j pos) (dC .non) := e_const pe_non fun _ _ => .non
theorem e_str {x j pos} : E3 X G W (.Constant (.str x) j pos) (dC (.str x)) := e_const pe_str fun _ _ => .str
end

/-! ### operators -/
@[reducible] def dBin (g : D → D → PM D) (Fa Fb : FE) : FE := fun δ μ => (Fa δ μ).bind fun x μ => (Fb δ μ).bind fun y μ => g x y μ
@[reducible] def dUn (g : D → PM D) (Fa : FE) : FE := fun δ μ => (Fa δ μ).bind fun x μ => g x μ
/-- what an operation on values gives, told by data -/
def Op2 (K : PySem.W.Frag) (G : Gx) (W : WX) (r : R2) (g : D → D → PM D) : Prop :=
  ∀ (σ : L2.St) (ι : List Addr) (M H : Hp) (μ : Mu) (x y : D) (v u : V) (Q : VK), Sto K G ι M H μ → Rep K G ι M v x → Rep K G ι M u y → Fin3 K G W σ ι M (g x y μ) (fun ι' M' H' _ d => ∀ w, Rep K G ι' M' w d → Q w H') → r v u H Q
def Op1 (K : PySem.W.Frag) (G : Gx) (W : WX) (r : V → Hp → VK → Prop) (g : D → PM D) : Prop :=
  ∀ (σ : L2.St) (ι : List Addr) (M H : Hp) (μ : Mu) (x : D) (v : V) (Q : VK), Sto K G ι M H μ → Rep K G ι M v x → Fin3 K G W σ ι M (g x μ) (fun ι' M' H' _ d => ∀ w, Rep K G ι' M' w d → Q w H') → r v H Q
section
variable {X : Cx} {G : Gx} {W : WX} {a b : Expr} {Fa Fb : FE} {pos : Pos}
theorem bin_imp {K : PySem.W.Frag} {r : R2} {g : D → D → PM D} (h : Op2 K G W r g) : ∀ σ H Q, tE K G W (dBin g Fa Fb) σ H Q → tOp r (tE K G W Fa) (tE K G W Fb) σ H Q := fun σ H Q ⟨ι, M, δ, μ, S, R, f⟩ => by
  refine ⟨ι, M, δ, μ, S, R, (Fin3.bind f).imp fun ι1 M1 H1 μ1 x p1 x1 S1 q v rv => ?_⟩
  refine ⟨ι1, M1, δ, μ1, S1, R.mono p1 x1, (Fin3.bind q).imp fun ι2 M2 H2 μ2 y p2 x2 S2 q2 u ru => ?_⟩
  exact h σ ι2 M2 H2 μ2 x y v u Q S2 (rv.mono p2 x2) ru q2
theorem un_imp {K : PySem.W.Frag} {r : V → Hp → VK → Prop} {g : D → PM D} (h : Op1 K G W r g) : ∀ σ H Q, tE K G W (dUn g Fa) σ H Q → tUn r (tE K G W Fa) σ H Q := fun σ H Q ⟨ι, M, δ, μ, S, R, f⟩ => by
  refine ⟨ι, M, δ, μ, S, R, (Fin3.bind f).imp fun ι1 M1 H1 μ1 x p1 x1 S1 q v rv => ?_⟩
  exact h σ ι1 M1 H1 μ1 x v Q S1 rv q
theorem e_bin {op : Operator} {r : R2} {g : D → D → PM D} (ho : OpR X (binaryOp op) r) (hg : Op2 X.K G W r g) (ha : E3 X G W a Fa) (hb : E3 X G W b Fb) : E3 X G W (.BinOp a op b pos) (dBin g Fa Fb) := pe_imp (pe_op ho ha hb) (bin_imp hg)
theorem e_cmp {op : CmpOp} {r : R2} {g : D → D → PM D} (ho : OpR X (compareOp op) r) (hg : Op2 X.K G W r g) (ha : E3 X G W a Fa) (hb : E3 X G W b Fb) (hm : behindInMarks op b = false := by first | exact nobehind _ (by decide) (by decide) | rfl) : E3 X G W (.Compare a [op] [b] pos) (dBin g Fa Fb) := pe_imp (pe_cmpR ho ha hb hm) (bin_imp hg)
theorem e_un {op : UnaryOp} {r : V → Hp → VK → Prop} {g : D → PM D} (ho : UnR X (unaryOp op) r) (hg : Op1 X.K G W r g) (ha : E3 X G W a Fa) : E3 X G W (.UnaryOp op a pos) (dUn g Fa) := pe_imp (pe_un ho ha) (un_imp hg)
end

/-! ### ints -/
@[reducible] def iop (C : Int → Int → Bool) (f : Int → Int → D) : D → D → PM D := fun x y μ => match x, y with
  | .int i, .int j => if C i j = true then .ok (f i j) μ else .stuck
  | _, _ => .stuck
@[reducible] def iop0 (f : Int → Int → D) : D → D → PM D := fun x y μ => match x, y with
  | .int i, .int j => .ok (f i j) μ
  | _, _ => .stuck
@[reducible] def iun (f : Int → D) : D → PM D := fun x μ => match x with
  | .int i => .ok (f i) μ
  | _ => .stuck
section
variable {K : PySem.W.Frag} {G : Gx} {W : WX}
theorem op2_I0 {f : Int → Int → D} {g : Int → Int → V} (h : ∀ i j ι M, Rep K G ι M (g i j) (f i j)) : Op2 K G W (rI0 g) (iop0 f) := by
  intro σ ι M H μ x y v u Q S rx ry q
  cases x with
  | int i =>
    cases y with
    | int j =>
      refine ⟨i, j, rep_int rx, rep_int ry, ?_⟩
      exact q ι M H (Nx.refl S) _ (h i j ι M)
    | _ => exact q.elim
  | _ => exact q.elim
theorem op2_I {C : Int → Int → Bool} {P : Int → Int → Prop} {f : Int → Int → D} {g : Int → Int → V} (hC : ∀ i j, C i j = true → P i j) (h : ∀ i j ι M, P i j → Rep K G ι M (g i j) (f i j)) : Op2 K G W (rI P g) (iop C f) := by
  intro σ ι M H μ x y v u Q S rx ry q
  cases x with
  | int i =>
    cases y with
    | int j =>
      have q2 : Fin3 K G W σ ι M (if C i j = true then .ok (f i j) μ else .stuck) (fun ι' M' H' _ d => ∀ w, Rep K G ι' M' w d → Q w H') := q
      by_cases c : C i j = true
      · rw [if_pos c] at q2
        exact ⟨i, j, rep_int rx, rep_int ry, hC i j c, q2 ι M H (Nx.refl S) _ (h i j ι M (hC i j c))⟩
      · rw [if_neg c] at q2
        exact q2.elim
    | _ => exact q.elim
  | _ => exact q.elim
theorem op1_I {f : Int → D} {g : Int → V} (h : ∀ i ι M, Rep K G ι M (g i) (f i)) : Op1 K G W (rU g) (iun f) := by
  intro σ ι M H μ x v Q S rx q
  cases x with
  | int i => exact ⟨i, rep_int rx, q ι M H (Nx.refl S) _ (h i ι M)⟩
  | _ => exact q.elim
end
abbrev addI : D → D → PM D := iop0 fun i j => .int (i + j)
abbrev subI : D → D → PM D := iop0 fun i j => .int (i - j)
/-- the product's size -/
def mulOk (i j : Int) : Bool := Builtin.Int.intBits i + Builtin.Int.intBits j ≤ 134217728
abbrev mulI : D → D → PM D := iop mulOk fun i j => .int (i * j)
def divOk (_ j : Int) : Bool := decide (j ≠ 0) && decide (j.natAbs.log2 < 9000)
abbrev divI : D → D → PM D := iop divOk fun i j => .int (i.fdiv j)
abbrev modI : D → D → PM D := iop (fun _ j => decide (j ≠ 0)) fun i j => .int (i.fmod j)
def powOk (i j : Int) : Bool := decide (0 ≤ j) && (decide (j ≤ 1000000) && decide (i.natAbs < 2 ^ 64))
abbrev powI : D → D → PM D := iop powOk fun i j => .int (i ^ j.toNat)
abbrev ltI : D → D → PM D := iop0 fun i j => .bl (decide (i < j))
abbrev leI : D → D → PM D := iop0 fun i j => .bl (decide (i ≤ j))
abbrev gtI : D → D → PM D := iop0 fun i j => .bl (decide (j < i))
abbrev geI : D → D → PM D := iop0 fun i j => .bl (decide (j ≤ i))
abbrev negI : D → PM D := iun fun i => .int (-i)
theorem mulOk_ok {i j : Int} (h : mulOk i j = true) : IntMulOk i j := by
  have h2 : Builtin.Int.intBits i + Builtin.Int.intBits j ≤ 134217728 := of_decide_eq_true h
  have e : bitsLine = 134217728 := by decide
  unfold IntMulOk
  intro z
  rw [Bool.and_eq_true] at z
  have z2 := z.2
  unfold Builtin.Int.intTooBig at z2
  have z3 := of_decide_eq_true z2
  rw [e] at z3
  omega
section
variable {X : Cx} {G : Gx} {W : WX} {a b : Expr} {Fa Fb : FE} {pos : Pos}
theorem op_mulA : OpR X (binaryOp .Mult) (rI IntMulOk fun i j => .int (i * j)) := opI fun _ _ _ _ _ _ _ hc q => mul_int q hc
theorem op_divA : OpR X (binaryOp .FloorDiv) (rI (fun _ j => j ≠ 0 ∧ j.natAbs.log2 < 9000) fun i j => .int (i.fdiv j)) := opI fun i j _ _ _ _ _ hc q => floordiv_int hc.1 q (.inl (PyProof.noPylong_of_log2 hc.2))
theorem e_addI (ha : E3 X G W a Fa) (hb : E3 X G W b Fb) : E3 X G W (.BinOp a .Add b pos) (dBin addI Fa Fb) := e_bin op_add (op2_I0 fun _ _ _ _ => .int) ha hb
theorem e_subI (ha : E3 X G W a Fa) (hb : E3 X G W b Fb) : E3 X G W (.BinOp a .Sub b pos) (dBin subI Fa Fb) := e_bin op_sub (op2_I0 fun _ _ _ _ => .int) ha hb
theorem e_mulI (ha : E3 X G W a Fa) (hb : E3 X G W b Fb) : E3 X G W (.BinOp a .Mult b pos) (dBin mulI Fa Fb) := e_bin op_mulA (op2_I (fun _ _ h => mulOk_ok h) fun _ _ _ _ _ => .int) ha hb
theorem e_divI (ha : E3 X G W a Fa) (hb : E3 X G W b Fb) : E3 X G W (.BinOp a .FloorDiv b pos) (dBin divI Fa Fb) := e_bin op_divA (op2_I (fun _ _ h => ⟨of_decide_eq_true (Bool.and_eq_true_iff.mp h).1, of_decide_eq_true (Bool.and_eq_true_iff.mp h).2⟩) fun _ _ _ _ _ => .int) ha hb
theorem e_modI (ha : E3 X G W a Fa) (hb : E3 X G W b Fb) : E3 X G W (.BinOp a .Mod b pos) (dBin modI Fa Fb) := e_bin op_modN (op2_I (fun _ _ h => of_decide_eq_true h) fun _ _ _ _ _ => .int) ha hb
theorem e_powI (ha : E3 X G W a Fa) (hb : E3 X G W b Fb) : E3 X G W (.BinOp a .Pow b pos) (dBin powI Fa Fb) := e_bin op_pow (op2_I (fun i j h => ⟨of_decide_eq_true (Bool.and_eq_true_iff.mp h).1, of_decide_eq_true (Bool.and_eq_true_iff.mp (Bool.and_eq_true_iff.mp h).2).1, of_decide_eq_true (Bool.and_eq_true_iff.mp (Bool.and_eq_true_iff.mp h).2).2⟩) fun _ _ _ _ _ => .int) ha hb
theorem e_ltI (ha : E3 X G W a Fa) (hb : E3 X G W b Fb) : E3 X G W (.Compare a [.Lt] [b] pos) (dBin ltI Fa Fb) := e_cmp op_lt (op2_I0 fun _ _ _ _ => .bl) ha hb
theorem e_leI (ha : E3 X G W a Fa) (hb : E3 X G W b Fb) : E3 X G W (.Compare a [.LtE] [b] pos) (dBin leI Fa Fb) := e_cmp op_le (op2_I0 fun _ _ _ _ => .bl) ha hb
theorem e_gtI (ha : E3 X G W a Fa) (hb : E3 X G W b Fb) : E3 X G W (.Compare a [.Gt] [b] pos) (dBin gtI Fa Fb) := e_cmp op_gt (op2_I0 fun _ _ _ _ => .bl) ha hb
theorem e_geI (ha : E3 X G W a Fa) (hb : E3 X G W b Fb) : E3 X G W (.Compare a [.GtE] [b] pos) (dBin geI Fa Fb) := e_cmp op_ge (op2_I0 fun _ _ _ _ => .bl) ha hb
theorem e_negI (ha : E3 X G W a Fa) : E3 X G W (.UnaryOp .USub a pos) (dUn negI Fa) := e_un un_neg (op1_I fun _ _ _ => .int) ha
end
/-- == of scalars -/
@[reducible] def eqS (neg : Bool) : D → D → PM D := fun x y μ => match x, y with
  | .int i, .int j => .ok (.bl (neg != decide (i = j))) μ
  | .bl i, .bl j => .ok (.bl (neg != decide (i = j))) μ
  | .str i, .str j => .ok (.bl (neg != decide (i = j))) μ
  | .non, .non => .ok (.bl (neg != true)) μ
  | .int _, .str _ => .ok (.bl neg) μ
  | .str _, .int _ => .ok (.bl neg) μ
  | .int _, .non => .ok (.bl neg) μ
  | .non, .int _ => .ok (.bl neg) μ
  | .str _, .non => .ok (.bl neg) μ
  | .non, .str _ => .ok (.bl neg) μ
  | .bl _, .non => .ok (.bl neg) μ
  | .non, .bl _ => .ok (.bl neg) μ
  | .bl _, .str _ => .ok (.bl neg) μ
  | .str _, .bl _ => .ok (.bl neg) μ
  | _, _ => .stuck
section
variable {K : PySem.W.Frag} {G : Gx} {W : WX}
def rEqN (neg : Bool) : R2 := fun x y H Q => scal x y = true ∧ Q (.bl (neg != decide (x = y))) H
theorem op2_eqS {neg : Bool} : Op2 K G W (rEqN neg) (eqS neg) := by
  intro σ ι M H μ x y v u Q S rx ry q
  have fin : ∀ b b' : Bool, b = b' → Fin3 K G W σ ι M (.ok (.bl b) μ) (fun ι' M' H' _ d => ∀ w, Rep K G ι' M' w d → Q w H') → Q (.bl b') H := fun b b' e f => e ▸ f ι M H (Nx.refl S) _ .bl
  cases x with
  | int i =>
    cases rx
    cases y with
    | int j => cases ry; exact ⟨rfl, fin _ _ (by simp) q⟩
    | str j => cases ry; exact ⟨rfl, fin _ _ (by simp) q⟩
    | non => cases ry; exact ⟨rfl, fin _ _ (by simp) q⟩
    | _ => exact q.elim
  | bl i =>
    cases rx
    cases y with
    | bl j => cases ry; exact ⟨rfl, fin _ _ (by simp) q⟩
    | str j => cases ry; exact ⟨rfl, fin _ _ (by simp) q⟩
    | non => cases ry; exact ⟨rfl, fin _ _ (by simp) q⟩
    | _ => exact q.elim
  | str i =>
    cases rx
    cases y with
    | int j => cases ry; exact ⟨rfl, fin _ _ (by simp) q⟩
    | bl j => cases ry; exact ⟨rfl, fin _ _ (by simp) q⟩
    | str j => cases ry; exact ⟨rfl, fin _ _ (by simp) q⟩
    | non => cases ry; exact ⟨rfl, fin _ _ (by simp) q⟩
    | _ => exact q.elim
  | non =>
    cases rx
    cases y with
    | int j => cases ry; exact ⟨rfl, fin _ _ (by simp) q⟩
    | bl j => cases ry; exact ⟨rfl, fin _ _ (by simp) q⟩
    | str j => cases ry; exact ⟨rfl, fin _ _ (by simp) q⟩
    | non => cases ry; exact ⟨rfl, fin _ _ (by simp) q⟩
    | _ => exact q.elim
  | _ => exact q.elim
end
section
variable {X : Cx} {G : Gx} {W : WX} {a b : Expr} {Fa Fb : FE} {pos : Pos}
theorem op_eqN : OpR X (compareOp .Eq) (rEqN false) := fun pins s σ H x y v u Q I rx ry ⟨h, q⟩ => op_eq pins s σ H x y v u Q I rx ry ⟨h, by simpa using q⟩
theorem op_neN : OpR X (compareOp .NotEq) (rEqN true) := fun pins s σ H x y v u Q I rx ry ⟨h, q⟩ => op_ne pins s σ H x y v u Q I rx ry ⟨h, by simpa using q⟩
theorem e_eqS (ha : E3 X G W a Fa) (hb : E3 X G W b Fb) : E3 X G W (.Compare a [.Eq] [b] pos) (dBin (eqS false) Fa Fb) := e_cmp op_eqN op2_eqS ha hb
theorem e_neS (ha : E3 X G W a Fa) (hb : E3 X G W b Fb) : E3 X G W (.Compare a [.NotEq] [b] pos) (dBin (eqS true) Fa Fb) := e_cmp op_neN op2_eqS ha hb
end
/-- is None, is not None -/
def isNonD : D → Bool
  | .non => true
  | _ => false
@[reducible] def isN (neg : Bool) : D → D → PM D := fun x y μ => match y with
  | .non => .ok (.bl (neg != isNonD x)) μ
  | _ => .stuck
section
variable {X : Cx} {G : Gx} {W : WX} {a b : Expr} {Fa Fb : FE} {pos : Pos}
theorem rep_isNon {K : PySem.W.Frag} {ι : List Addr} {M : Hp} {v : V} {d : D} (h : Rep K G ι M v d) : decide (v = .non) = isNonD d := by cases h <;> rfl
theorem op2_isN {K : PySem.W.Frag} : Op2 K G W (fun x y H Q => y = .non ∧ Q (.bl (decide (x = .non))) H) (isN false) := by
  intro σ ι M H μ x y v u Q S rx ry q
  cases y with
  | non => exact ⟨rep_non ry, by rw [rep_isNon rx]; exact q ι M H (Nx.refl S) _ (by rw [Bool.false_bne]; exact .bl)⟩
  | _ => exact q.elim
theorem op2_notN {K : PySem.W.Frag} : Op2 K G W (fun x y H Q => y = .non ∧ Q (.bl (!decide (x = .non))) H) (isN true) := by
  intro σ ι M H μ x y v u Q S rx ry q
  cases y with
  | non => exact ⟨rep_non ry, by rw [rep_isNon rx]; exact q ι M H (Nx.refl S) _ (by rw [Bool.true_bne]; exact .bl)⟩
  | _ => exact q.elim
theorem e_isN (ha : E3 X G W a Fa) (hb : E3 X G W b Fb) : E3 X G W (.Compare a [.Is] [b] pos) (dBin (isN false) Fa Fb) := e_cmp op_isN op2_isN ha hb
theorem e_notN (ha : E3 X G W a Fa) (hb : E3 X G W b Fb) : E3 X G W (.Compare a [.IsNot] [b] pos) (dBin (isN true) Fa Fb) := e_cmp op_notN op2_notN ha hb
end

/-! ### tests -/
@[reducible] def asB (Fa : FE) : FT := fun δ μ => (Fa δ μ).bind fun d μ => match d with
  | .bl b => .ok b μ
  | _ => .stuck
@[reducible] def tAnd3 (Fa Fb : FT) : FT := fun δ μ => (Fa δ μ).bind fun b μ => if b = true then Fb δ μ else .ok false μ
@[reducible] def tOr3 (Fa Fb : FT) : FT := fun δ μ => (Fa δ μ).bind fun b μ => if b = true then .ok true μ else Fb δ μ
@[reducible] def tNot3 (Fa : FT) : FT := fun δ μ => (Fa δ μ).bind fun b μ => .ok (!b) μ
@[reducible] def dAnd (Fa Fb : FE) : FE := fun δ μ => (asB Fa δ μ).bind fun b μ => if b = true then Fb δ μ else .ok (.bl false) μ
@[reducible] def dOr (Fa Fb : FE) : FE := fun δ μ => (asB Fa δ μ).bind fun b μ => if b = true then .ok (.bl true) μ else Fb δ μ
@[reducible] def dNot (Fa : FE) : FE := fun δ μ => (asB Fa δ μ).bind fun b μ => .ok (.bl (!b)) μ
@[reducible] def dIf (Ft : FT) (Fa Fb : FE) : FE := fun δ μ => (Ft δ μ).bind fun b μ => if b = true then Fa δ μ else Fb δ μ
section
variable {X : Cx} {G : Gx} {W : WX} {a b c : Expr} {Fa Fb : FE} {Ta Tb : FT} {pos : Pos} {rest : List Expr}
theorem Fin3.asB {K : PySem.W.Frag} {σ : L2.St} {ι : List Addr} {M : Hp} {δ : Env3} {μ : Mu} {β : Type} {g : Bool → Mu → Res β} {P : List Addr → Hp → Hp → Mu → β → Prop} (f : Fin3 K G W σ ι M ((asB Fa δ μ).bind g) P) :
    Fin3 K G W σ ι M (Fa δ μ) (fun ι' M' _ μ' d => ∃ b, d = .bl b ∧ Fin3 K G W σ ι' M' (g b μ') P) := by
  unfold L3.asB at f
  cases h : Fa δ μ with
  | ok d m =>
    rw [h] at f
    cases d with
    | bl b => exact fun i2 m2 h2 n => ⟨b, rfl, Fin3.mono n.pre n.ext f⟩
    | _ => exact f.elim
  | exc c fs m => rw [h] at f; exact f
  | stuck => rw [h] at f; exact f
theorem asB_imp {K : PySem.W.Frag} {te : TE} (h : te = tE K G W Fa) : ∀ σ H Q, tT K G W (asB Fa) σ H Q → tB te σ H Q := fun σ H Q ⟨ι, M, δ, μ, S, R, f⟩ => by
  subst h
  have f2 : Fin3 K G W σ ι M ((asB Fa δ μ).bind fun b m => .ok b m) (fun _ _ H' _ b => Q b H') := by
    cases h : asB Fa δ μ with
    | ok d m => rw [h] at f; exact f
    | exc c fs m => rw [h] at f; exact f
    | stuck => rw [h] at f; exact f
  refine ⟨ι, M, δ, μ, S, R, (Fin3.asB f2).imp fun ι1 M1 H1 μ1 d p1 x1 S1 q v rv => ?_⟩
  obtain ⟨b, rfl, q⟩ := q
  exact ⟨b, rep_bl rv, q ι1 M1 H1 (Nx.refl S1)⟩
/-- an expression that gives a flag, as a test -/
theorem t_val (h : E3 X G W a Fa) (he : ∀ whole, isTrue a X.env whole = (do let v ← whole; standAt a.pos; holding [v] (truthy v)) := by intro _; rfl) : T3 X G W a (asB Fa) := pt_imp (pt_val h he) (asB_imp rfl)
theorem t_cmp {op : CmpOp} {r : R2} {g : D → D → PM D} (ho : OpR X (compareOp op) r) (hg : Op2 X.K G W r g) (ha : E3 X G W a Fa) (hb : E3 X G W b Fb) (hm : behindInMarks op b = false := by first | exact nobehind _ (by decide) (by decide) | rfl) : T3 X G W (.Compare a [op] [b] pos) (asB (dBin g Fa Fb)) :=
  pt_imp (pt_cmpR ho ha hb hm) fun σ H Q q => bin_imp hg σ H _ (asB_imp rfl σ H Q q)
theorem t_ltI (ha : E3 X G W a Fa) (hb : E3 X G W b Fb) : T3 X G W (.Compare a [.Lt] [b] pos) (asB (dBin ltI Fa Fb)) := t_cmp op_lt (op2_I0 fun _ _ _ _ => .bl) ha hb
theorem t_leI (ha : E3 X G W a Fa) (hb : E3 X G W b Fb) : T3 X G W (.Compare a [.LtE] [b] pos) (asB (dBin leI Fa Fb)) := t_cmp op_le (op2_I0 fun _ _ _ _ => .bl) ha hb
theorem t_gtI (ha : E3 X G W a Fa) (hb : E3 X G W b Fb) : T3 X G W (.Compare a [.Gt] [b] pos) (asB (dBin gtI Fa Fb)) := t_cmp op_gt (op2_I0 fun _ _ _ _ => .bl) ha hb
theorem t_geI (ha : E3 X G W a Fa) (hb : E3 X G W b Fb) : T3 X G W (.Compare a [.GtE] [b] pos) (asB (dBin geI Fa Fb)) := t_cmp op_ge (op2_I0 fun _ _ _ _ => .bl) ha hb
theorem t_eqS (ha : E3 X G W a Fa) (hb : E3 X G W b Fb) : T3 X G W (.Compare a [.Eq] [b] pos) (asB (dBin (eqS false) Fa Fb)) := t_cmp op_eqN op2_eqS ha hb
theorem t_neS (ha : E3 X G W a Fa) (hb : E3 X G W b Fb) : T3 X G W (.Compare a [.NotEq] [b] pos) (asB (dBin (eqS true) Fa Fb)) := t_cmp op_neN op2_eqS ha hb
theorem t_isN (ha : E3 X G W a Fa) (hb : E3 X G W b Fb) : T3 X G W (.Compare a [.Is] [b] pos) (asB (dBin (isN false) Fa Fb)) := t_cmp op_isN op2_isN ha hb
theorem t_notN (ha : E3 X G W a Fa) (hb : E3 X G W b Fb) : T3 X G W (.Compare a [.IsNot] [b] pos) (asB (dBin (isN true) Fa Fb)) := t_cmp op_notN op2_notN ha hb
abbrev W3 (X : Cx) (G : Gx) (W : WX) (e : Expr) (F : FT) : Prop := PW X e (tT X.K G W F)
theorem pw_imp {t t' : TT} (h : PW X a t) (k : ∀ σ H Q, t' σ H Q → t σ H Q) : PW X a t' := ⟨fun wh pins s σ H Q I q => h.run wh pins s σ H Q I (k σ H Q q)⟩
theorem w_and1 (ha : T3 X G W a Ta) : W3 X G W (.BoolOp .And [a] pos) Ta := pw_and1 ha
theorem w_or1 (ha : T3 X G W a Ta) : W3 X G W (.BoolOp .Or [a] pos) Ta := pw_or1 ha
theorem and_imp {K : PySem.W.Frag} : ∀ σ H Q, tT K G W (tAnd3 Ta Tb) σ H Q → tAnd (tT K G W Ta) (tT K G W Tb) σ H Q := fun σ H Q ⟨ι, M, δ, μ, S, R, f⟩ =>
  ⟨ι, M, δ, μ, S, R, (Fin3.bind f).imp fun ι1 M1 H1 μ1 b p1 x1 S1 q => by
    cases b with
    | true => exact ⟨ι1, M1, δ, μ1, S1, R.mono p1 x1, q⟩
    | false => exact q ι1 M1 H1 (Nx.refl S1)⟩
theorem or_imp {K : PySem.W.Frag} : ∀ σ H Q, tT K G W (tOr3 Ta Tb) σ H Q → tOr (tT K G W Ta) (tT K G W Tb) σ H Q := fun σ H Q ⟨ι, M, δ, μ, S, R, f⟩ =>
  ⟨ι, M, δ, μ, S, R, (Fin3.bind f).imp fun ι1 M1 H1 μ1 b p1 x1 S1 q => by
    cases b with
    | false => exact ⟨ι1, M1, δ, μ1, S1, R.mono p1 x1, q⟩
    | true => exact q ι1 M1 H1 (Nx.refl S1)⟩
theorem w_and (ha : T3 X G W a Ta) (hb : W3 X G W (.BoolOp .And (b :: rest) pos) Tb) : W3 X G W (.BoolOp .And (a :: b :: rest) pos) (tAnd3 Ta Tb) := pw_imp (pw_and ha hb) and_imp
theorem w_or (ha : T3 X G W a Ta) (hb : W3 X G W (.BoolOp .Or (b :: rest) pos) Tb) : W3 X G W (.BoolOp .Or (a :: b :: rest) pos) (tOr3 Ta Tb) := pw_imp (pw_or ha hb) or_imp
theorem t_w (h : W3 X G W a Ta) : T3 X G W a Ta := PW.pt h
theorem t_not (ha : T3 X G W a Ta) : T3 X G W (.UnaryOp .Not a pos) (tNot3 Ta) := pt_imp (pt_not ha) fun σ H Q ⟨ι, M, δ, μ, S, R, f⟩ =>
  ⟨ι, M, δ, μ, S, R, (Fin3.bind f).imp fun ι1 M1 H1 μ1 b p1 x1 S1 q => q ι1 M1 H1 (Nx.refl S1)⟩
theorem e_one {op} (h : E3 X G W a Fa) : E3 X G W (.BoolOp op [a] pos) Fa := pe_one h
theorem e_and (ha : E3 X G W a Fa) (hb : E3 X G W (.BoolOp .And (b :: rest) pos) Fb) : E3 X G W (.BoolOp .And (a :: b :: rest) pos) (dAnd Fa Fb) := pe_imp (pe_and ha hb) fun σ H Q ⟨ι, M, δ, μ, S, R, f⟩ =>
  ⟨ι, M, δ, μ, S, R, (Fin3.asB f).imp fun ι1 M1 H1 μ1 d p1 x1 S1 ⟨b, e, q⟩ v rv => by
    subst e
    refine ⟨b, rep_bl rv, ?_⟩
    cases b with
    | true => exact ⟨ι1, M1, δ, μ1, S1, R.mono p1 x1, q⟩
    | false => exact q ι1 M1 H1 (Nx.refl S1) _ .bl⟩
theorem e_or (ha : E3 X G W a Fa) (hb : E3 X G W (.BoolOp .Or (b :: rest) pos) Fb) : E3 X G W (.BoolOp .Or (a :: b :: rest) pos) (dOr Fa Fb) := pe_imp (pe_or ha hb) fun σ H Q ⟨ι, M, δ, μ, S, R, f⟩ =>
  ⟨ι, M, δ, μ, S, R, (Fin3.asB f).imp fun ι1 M1 H1 μ1 d p1 x1 S1 ⟨b, e, q⟩ v rv => by
    subst e
    refine ⟨b, rep_bl rv, ?_⟩
    cases b with
    | false => exact ⟨ι1, M1, δ, μ1, S1, R.mono p1 x1, q⟩
    | true => exact q ι1 M1 H1 (Nx.refl S1) _ .bl⟩
theorem e_not (ha : E3 X G W a Fa) : E3 X G W (.UnaryOp .Not a pos) (dNot Fa) := pe_imp (pe_not ha) fun σ H Q ⟨ι, M, δ, μ, S, R, f⟩ =>
  ⟨ι, M, δ, μ, S, R, (Fin3.asB f).imp fun ι1 M1 H1 μ1 d p1 x1 S1 ⟨b, e, q⟩ v rv => by
    subst e
    exact ⟨b, rep_bl rv, q ι1 M1 H1 (Nx.refl S1) _ .bl⟩⟩
theorem e_ifExp (hc : T3 X G W c Ta) (ha : E3 X G W a Fa) (hb : E3 X G W b Fb) : E3 X G W (.IfExp c a b pos) (dIf Ta Fa Fb) := pe_imp (pe_ifExp hc ha hb) fun σ H Q ⟨ι, M, δ, μ, S, R, f⟩ =>
  ⟨ι, M, δ, μ, S, R, (Fin3.bind f).imp fun ι1 M1 H1 μ1 b p1 x1 S1 q => by
    cases b with
    | true => exact ⟨ι1, M1, δ, μ1, S1, R.mono p1 x1, q⟩
    | false => exact ⟨ι1, M1, δ, μ1, S1, R.mono p1 x1, q⟩⟩
end

/-! ### argument lists, displays -/
@[reducible] def aNil : FA := fun _ μ => .ok [] μ
@[reducible] def aCons (Fa : FE) (Fr : FA) : FA := fun δ μ => (Fa δ μ).bind fun d μ => (Fr δ μ).bind fun ds μ => .ok (d :: ds) μ
@[reducible] def dTup (Fr : FA) : FE := fun δ μ => (Fr δ μ).bind fun ds μ => if ds.length ≤ 1000000 then .ok (.tup ds) μ else .stuck
/-- a list that never changes | one that may -/
@[reducible] def dLst (Fr : FA) : FE := fun δ μ => (Fr δ μ).bind fun ds μ => if ds.length ≤ 1000000 then .ok (.lst ds) μ else .stuck
@[reducible] def dLstC (Fr : FA) : FE := fun δ μ => (Fr δ μ).bind fun ds μ => if ds.length ≤ 1000000 then .ok (.cell μ.length) (μ ++ [.lst ds]) else .stuck
theorem line_of {n : Nat} (h : n ≤ 1000000) : n ≤ sizeLine := Nat.le_trans h (by decide)
theorem line_lt {n : Nat} (h : n ≤ 1000000) : n < sizeLine := Nat.lt_of_le_of_lt h (by decide)
section
variable {X : Cx} {G : Gx} {W : WX} {e : Expr} {es : List Expr} {Fa : FE} {Fr : FA} {pos : Pos}
theorem a_nil : A3 X G W [] aNil := pa_imp pa_nil fun σ H Q ⟨ι, M, δ, μ, S, R, f⟩ => f ι M H (Nx.refl S) _ .nil
theorem a_cons (ha : E3 X G W e Fa) (hr : A3 X G W es Fr) (hs : starEach (e :: es) X.env = (false, eval e X.env) :: starEach es X.env := by rfl) : A3 X G W (e :: es) (aCons Fa Fr) := pa_imp (pa_cons ha hr hs) fun σ H Q ⟨ι, M, δ, μ, S, R, f⟩ =>
  ⟨ι, M, δ, μ, S, R, (Fin3.bind f).imp fun ι1 M1 H1 μ1 d p1 x1 S1 q v rv => ⟨ι1, M1, δ, μ1, S1, R.mono p1 x1, (Fin3.bind q).imp fun ι2 M2 H2 μ2 ds p2 x2 S2 q2 vs rvs => q2 ι2 M2 H2 (Nx.refl S2) _ (.cons (rv.mono p2 x2) rvs)⟩⟩
/-- a new object that never changes -/
theorem Fin3.frz {K : PySem.W.Frag} {σ : L2.St} {ι : List Addr} {M H : Hp} {μ : Mu} {d : D} {o : HO} {p : Addr} {Q : VK} (q : Fin3 K G W σ ι M (.ok d μ) (fun ι' M' H' _ d => ∀ w, Rep K G ι' M' w d → Q w H')) (S : Sto K G ι M H μ) (hp : H p = none)
    (r : Ext M (upd M p o) → Rep K G ι (upd M p o) (.ref p) d) : Q (.ref p) (upd H p o) :=
  q ι (upd M p o) (upd H p o) ⟨Pre.refl _, Ext.upd (S.free hp), S.frozen hp⟩ _ (r (Ext.upd (S.free hp)))
/-- a new cell -/
theorem Fin3.new {K : PySem.W.Frag} {σ : L2.St} {ι : List Addr} {M H : Hp} {μ : Mu} {c : Cel} {o : HO} {p : Addr} {Q : VK} (q : Fin3 K G W σ ι M (.ok (.cell μ.length) (μ ++ [c])) (fun ι' M' H' _ d => ∀ w, Rep K G ι' M' w d → Q w H')) (S : Sto K G ι M H μ) (hp : H p = none)
    (k : CelOk K G (ι ++ [p]) M (upd H p o) p c) : Q (.ref p) (upd H p o) :=
  q (ι ++ [p]) M (upd H p o) ⟨Pre.app _ _, Ext.rfl', S.cell hp k⟩ _ (.cell (by rw [← S.len, List.getElem?_append_right (Nat.le_refl _)]; simp))
theorem e_tup {x1} (h : A3 X G W es Fr) : E3 X G W (.Tuple es x1 pos) (dTup Fr) := pe_imp (pe_tup h) fun σ H Q ⟨ι, M, δ, μ, S, R, f⟩ =>
  ⟨ι, M, δ, μ, S, R, (Fin3.bind f).imp fun ι1 M1 H1 μ1 ds p1 x1 S1 q vs rvs => by
    by_cases c : ds.length ≤ 1000000
    · rw [if_pos c] at q
      exact ⟨line_of (by rw [rvs.length]; exact c), fun p hp => Fin3.frz q S1 hp fun x => .tup (SqT.of upd_same) (rvs.mono (Pre.refl _) x)⟩
    · rw [if_neg c] at q
      exact q.elim⟩
theorem e_lst (h : A3 X G W es Fr) : E3 X G W (.List es pos) (dLst Fr) := pe_imp (pe_lst h) fun σ H Q ⟨ι, M, δ, μ, S, R, f⟩ =>
  ⟨ι, M, δ, μ, S, R, (Fin3.bind f).imp fun ι1 M1 H1 μ1 ds p1 x1 S1 q vs rvs => by
    by_cases c : ds.length ≤ 1000000
    · rw [if_pos c] at q
      exact ⟨line_of (by rw [rvs.length]; exact c), fun p hp => Fin3.frz q S1 hp fun x => .lst upd_same (rvs.mono (Pre.refl _) x)⟩
    · rw [if_neg c] at q
      exact q.elim⟩
theorem e_lstC (h : A3 X G W es Fr) : E3 X G W (.List es pos) (dLstC Fr) := pe_imp (pe_lst h) fun σ H Q ⟨ι, M, δ, μ, S, R, f⟩ =>
  ⟨ι, M, δ, μ, S, R, (Fin3.bind f).imp fun ι1 M1 H1 μ1 ds p1 x1 S1 q vs rvs => by
    by_cases c : ds.length ≤ 1000000
    · rw [if_pos c] at q
      exact ⟨line_of (by rw [rvs.length]; exact c), fun p hp => Fin3.new q S1 hp ⟨vs, upd_same, rvs.mono (Pre.app _ _) Ext.rfl'⟩⟩
    · rw [if_neg c] at q
      exact q.elim⟩
end
end L3

set_option maxRecDepth 100000
set_option maxHeartbeats 2000000
namespace L3
open PySem PySem.Spec PyProof.Rows L2

/-! ### blocks and small statements -/
@[reducible] def sNil : FS := fun δ μ => .nx δ μ
@[reducible] def sSeq (S T : FS) : FS := fun δ μ => (S δ μ).seq T
@[reducible] def sSet (i : Nat) (Fe : FE) : FS := fun δ μ => (Fe δ μ).toS δ fun d μ => .nx (δ.set i (some d)) μ
@[reducible] def sRet (Fe : FE) : FS := fun δ μ => (Fe δ μ).toS δ fun d μ => .ret d μ
@[reducible] def sRetN : FS := fun _ μ => .ret .non μ
@[reducible] def sDrop (Fe : FE) : FS := fun δ μ => (Fe δ μ).toS δ fun _ μ => .nx δ μ
@[reducible] def sIf (Ft : FT) (S T : FS) : FS := fun δ μ => (Ft δ μ).toS δ fun b μ => if b = true then S δ μ else T δ μ
@[reducible] def sBrk : FS := fun δ μ => .brk δ μ
@[reducible] def sCt : FS := fun δ μ => .ct δ μ
@[reducible] def sNever : FS := fun _ _ => .stuck
@[reducible] def sPar (i j : Nat) (Fa : FA) : FS := fun δ μ => (Fa δ μ).toS δ fun ds μ => match ds with
  | [a, b] => .nx ((δ.set i (some a)).set j (some b)) μ
  | _ => .stuck
def setAll : List Nat → List D → Env3 → Option Env3
  | [], [], δ => some δ
  | i :: is, d :: ds, δ => setAll is ds (δ.set i (some d))
  | _, _, _ => none
/-- a, b = a tuple -/
@[reducible] def sUnp (is : List Nat) (Fe : FE) : FS := fun δ μ => (Fe δ μ).toS δ fun d μ => match d with
  | .tup ds => (match setAll is ds δ with
    | some δ' => .nx δ' μ
    | none => .stuck)
  | _ => .stuck
section
variable {X : Cx} {G : Gx} {W : WX} {e : Expr} {st : Stmt} {rest : List Stmt} {Fe : FE} {Ft : FT} {S T : FS} {pos : Pos}
theorem b_nil : B3 X G W [] sNil := pss_imp pss_nil fun E σ H ⟨ι, M, δ, μ, So, R, f⟩ => f ι M H σ (Nx.refl So) R
theorem b_cons (h1 : S3 X G W st S) (h2 : B3 X G W rest T) : B3 X G W (st :: rest) (sSeq S T) := pss_imp (pss_cons h1 h2) fun E σ H ⟨ι, M, δ, μ, So, R, f⟩ => ⟨ι, M, δ, μ, So, R, FinS.seq f⟩
theorem b_one (h1 : S3 X G W st S) : B3 X G W [st] S := pss_one h1
theorem b_never : B3 X G W rest sNever := pss_imp pss_never fun E σ H ⟨ι, M, δ, μ, So, R, f⟩ => f.elim
theorem s_never : S3 X G W st sNever := ps_imp ps_never fun E σ H ⟨ι, M, δ, μ, So, R, f⟩ => f.elim
theorem s_pass : S3 X G W (.Pass pos) sNil := ps_imp ps_pass fun E σ H ⟨ι, M, δ, μ, So, R, f⟩ => f ι M H σ (Nx.refl So) R
theorem s_brk : S3 X G W (.Break pos) sBrk := ps_imp ps_break fun E σ H ⟨ι, M, δ, μ, So, R, f⟩ => f ι M H σ (Nx.refl So) R
theorem s_ct : S3 X G W (.Continue pos) sCt := ps_imp ps_continue fun E σ H ⟨ι, M, δ, μ, So, R, f⟩ => f ι M H σ (Nx.refl So) R
theorem s_doc {x j pos pos'} : S3 X G W (.Expr (.Constant (.str x) j pos) pos') sNil := ps_imp ps_doc fun E σ H ⟨ι, M, δ, μ, So, R, f⟩ => f ι M H σ (Nx.refl So) R
theorem s_set {i : Nat} {x : Str} {pos' : Pos} (hN : X.N.Nodup) (he : E3 X G W e Fe) (hi : X.N[i]? = some x := by rfl) (hx : Loc X.env.scope x := by first | exact Or.inl rfl | exact Or.inr rfl) (hs : swapsWith e (some (.Name x pos')) pos.line X.env = pure false := by rfl)
    (hf : X.fn x = true ∨ X.env.scope.names.lookup x = some .local := by first | exact .inl rfl | exact .inr rfl | assumption) : S3 X G W (.Assign [.Name x pos'] e pos) (sSet i Fe) :=
  ps_imp (ps_set hN hi hx he hs hf) fun E σ H ⟨ι, M, δ, μ, So, R, f⟩ => ⟨ι, M, δ, μ, So, R, (FinS.ofE R f).imp fun ι1 M1 H1 μ1 d p1 x1 S1 q v rv => q ι1 M1 H1 _ (Nx.refl S1) ((R.mono p1 x1).set rv)⟩
theorem s_ret (he : E3 X G W e Fe) : S3 X G W (.Return (some e) pos) (sRet Fe) :=
  ps_imp (ps_ret he) fun E σ H ⟨ι, M, δ, μ, So, R, f⟩ => ⟨ι, M, δ, μ, So, R, (FinS.ofE R f).imp fun ι1 M1 H1 μ1 d p1 x1 S1 q v rv => q ι1 M1 H1 v (Nx.refl S1) rv⟩
theorem s_retN : S3 X G W (.Return none pos) sRetN := ps_imp ps_retN fun E σ H ⟨ι, M, δ, μ, So, R, f⟩ => f ι M H .non (Nx.refl So) .non
theorem s_expr (he : E3 X G W e Fe) (hs : swapsWith e none pos.line X.env = pure false := by rfl) : S3 X G W (.Expr e pos) (sDrop Fe) :=
  ps_imp (ps_expr he hs) fun E σ H ⟨ι, M, δ, μ, So, R, f⟩ => ⟨ι, M, δ, μ, So, R, (FinS.ofE R f).imp fun ι1 M1 H1 μ1 d p1 x1 S1 q v rv => q ι1 M1 H1 σ (Nx.refl S1) (R.mono p1 x1)⟩
theorem s_if {c : Expr} {a b : List Stmt} (hc : T3 X G W c Ft) (ha : B3 X G W a S) (hb : B3 X G W b T) : S3 X G W (.If c a b pos) (sIf Ft S T) :=
  ps_imp (ps_if hc ha hb) fun E σ H ⟨ι, M, δ, μ, So, R, f⟩ => ⟨ι, M, δ, μ, So, R, (FinS.ofE R f).imp fun ι1 M1 H1 μ1 b p1 x1 S1 q => by
    cases b with
    | true => exact ⟨ι1, M1, δ, μ1, S1, R.mono p1 x1, q⟩
    | false => exact ⟨ι1, M1, δ, μ1, S1, R.mono p1 x1, q⟩⟩
theorem s_par {i j : Nat} {x y : Str} {a b : Expr} {Fa : FA} {px py pt : Pos} {kt k2 pt2} (hc : X.calm = true) (hN : X.N.Nodup) (ha : A3 X G W [a, b] Fa) (hi : X.N[i]? = some x := by rfl) (hj : X.N[j]? = some y := by rfl) (hij : i ≠ j := by decide)
    (h : ∀ t, PA X [a, b] t → PS X (.Assign [.Tuple [.Name x px, .Name y py] kt pt] (.Tuple [a, b] k2 pt2) pos) (tPar i j t)) : S3 X G W (.Assign [.Tuple [.Name x px, .Name y py] kt pt] (.Tuple [a, b] k2 pt2) pos) (sPar i j Fa) :=
  ps_imp (h _ ha) fun E σ H ⟨ι, M, δ, μ, So, R, f⟩ => ⟨ι, M, δ, μ, So, R, (FinS.ofE R f).imp fun ι1 M1 H1 μ1 ds p1 x1 S1 q vs rvs => by
    cases rvs with
    | nil => exact q.elim
    | cons r1 rr =>
      cases rr with
      | nil => exact q.elim
      | cons r2 rr =>
        cases rr with
        | nil => exact ⟨_, _, rfl, q ι1 M1 H1 _ (Nx.refl S1) (((R.mono p1 x1).set r1).set r2)⟩
        | cons _ _ => exact q.elim⟩
end

/-! ### targets -/
section
variable {X : Cx} {G : Gx} {W : WX}
/-- a tuple's items to names -/
structure U3 (X : Cx) (es : List Expr) (is : List Nat) : Prop where
  ex : ∃ g : TGs, PGs X es g ∧ ∀ (K : PySem.W.Frag) (G : Gx) (ι : List Addr) (M : Hp) (vs : List V) (ds : List D) (σ : L2.St) (δ δ' : Env3) (H : Hp) (Q : L2.St → Hp → Prop), Reps K G ι M vs ds → REnv K G ι M σ δ → setAll is ds δ = some δ' → (∀ σ', REnv K G ι M σ' δ' → Q σ' H) → g vs σ H Q
theorem u_nil : U3 X [] [] := ⟨gNil, pgs_nil, fun K G ι M vs ds σ δ δ' H Q r R e q => by
  cases r with
  | nil =>
    cases (show some δ = some δ' from e)
    exact ⟨rfl, q σ R⟩
  | cons _ _ => cases e⟩
theorem u_cons {i : Nat} {x : Str} {pos : Pos} {es : List Expr} {is : List Nat} (hN : X.N.Nodup) (h : U3 X es is) (hi : X.N[i]? = some x := by rfl) (hx : Loc X.env.scope x := by first | exact Or.inl rfl | exact Or.inr rfl)
    (hf : X.fn x = true ∨ X.env.scope.names.lookup x = some .local := by first | exact .inl rfl | exact .inr rfl | assumption)
    (hs : (assignEach (.Name x pos :: es) X.env).map (·.2) = assign (.Name x pos) X.env :: (assignEach es X.env).map (·.2) := by rfl) : U3 X (.Name x pos :: es) (i :: is) := by
  obtain ⟨g, h1, h2⟩ := h.ex
  refine ⟨gCons (gName i) g, pgs_cons (pg_name hN hi hx hf) h1 hs, fun K G ι M vs ds σ δ δ' H Q r R e q => ?_⟩
  cases r with
  | nil => cases e
  | cons r1 rr => exact ⟨_, _, rfl, h2 K G ι M _ _ _ _ _ _ _ rr (R.set r1) e q⟩
theorem s_unp {e : Expr} {Fe : FE} {es : List Expr} {is : List Nat} {k : Nat} {pos tpos : Pos} (hc : X.calm = true) (he : E3 X G W e Fe) (hu : U3 X es is)
    (hn : (assignEach es X.env).length = is.length := by rfl) (hst : (assignEach es X.env).findIdx? (·.1) = none := by rfl)
    (hs : swapsWithSole [.Tuple es k tpos] e pos.line X.env = pure false := by rfl) (hw : swappedStores [.Tuple es k tpos] e X.env = pure none := by rfl)
    (h1 : (assignEach [.Tuple es k tpos] X.env).map (·.2) = [assign (.Tuple es k tpos) X.env] := by rfl) : S3 X G W (.Assign [.Tuple es k tpos] e pos) (sUnp is Fe) := by
  obtain ⟨g, hg, hq⟩ := hu.ex
  refine ps_imp (ps_asg he (pg_tup hc hg hn hst) hs hw h1) fun E σ H ⟨ι, M, δ, μ, So, R, f⟩ => ⟨ι, M, δ, μ, So, R, (FinS.ofE R f).imp fun ι1 M1 H1 μ1 d p1 x1 S1 q v rv => ?_⟩
  cases d with
  | tup ds =>
    obtain ⟨a, xs, rfl, ht, rs⟩ := rep_tup rv
    have q2 : FinS X.K G W ι1 M1 (match setAll is ds δ with | some δ' => RS.nx δ' μ1 | none => .stuck) E := q
    cases e2 : setAll is ds δ with
    | none => rw [e2] at q2; exact q2.elim
    | some δ' =>
      rw [e2] at q2
      have l : ∀ (is : List Nat) (ds : List D) (δ δ' : Env3), setAll is ds δ = some δ' → ds.length = is.length := by
        intro is
        induction is with
        | nil => intro ds δ δ' h; cases ds with
          | nil => rfl
          | cons _ _ => cases h
        | cons i is ih => intro ds δ δ' h; cases ds with
          | nil => cases h
          | cons d ds => exact congrArg Nat.succ (ih _ _ _ h)
      refine ⟨a, xs, rfl, ht.ext S1.fz, by rw [rs.length]; exact l _ _ _ _ e2, ?_⟩
      exact hq X.K G ι1 M1 xs ds σ δ δ' H1 _ rs (R.mono p1 x1) e2 fun σ' R' => q2 ι1 M1 H1 σ' (Nx.refl S1) R'
  | _ => exact q.elim
end

/-! ### while -/
def RS.loop (r : RS) (g : Env3 → Mu → RS) : RS := match r with
  | .nx δ m => g δ m
  | .ct δ m => g δ m
  | .brk δ m => .nx δ m
  | .ret d m => .ret d m
  | .exc c fs δ m => .exc c fs δ m
  | .stuck => .stuck
def whileL (Ft : FT) (B : FS) : Nat → Env3 → Mu → RS
  | 0, _, _ => .stuck
  | n + 1, δ, μ => (Ft δ μ).toS δ fun b μ => if b = true then (B δ μ).loop (whileL Ft B n) else .nx δ μ
/-- fuel told by the state ahead of the loop -/
@[reducible] def sWhile (fuel : Env3 → Mu → Nat) (Ft : FT) (B : FS) : FS := fun δ μ => whileL Ft B (fuel δ μ) δ μ
section
variable {X : Cx} {G : Gx} {W : WX} {c : Expr} {body : List Stmt} {Ft : FT} {B : FS} {pos : Pos}
theorem FinS.loop {K : PySem.W.Frag} {ι : List Addr} {M : Hp} {r : RS} {g : FS} {E : Ends} {N : L2.St → Hp → Prop} (h : FinS K G W ι M (r.loop g) E)
    (k : ∀ ι' M' H' σ' δ' μ', Pre ι ι' → Ex M M' → Sto K G ι' M' H' μ' → REnv K G ι' M' σ' δ' → FinS K G W ι' M' (g δ' μ') E → N σ' H') : FinS K G W ι M r { E with nx := N, ct := N, bk := E.nx } := by
  cases r with
  | nx δ μ => exact fun i2 m2 h2 s2 n re => k _ _ _ _ _ _ n.pre n.ext n.sto re (FinS.mono n.pre n.ext h)
  | ct δ μ => exact fun i2 m2 h2 s2 n re => k _ _ _ _ _ _ n.pre n.ext n.sto re (FinS.mono n.pre n.ext h)
  | brk δ μ => exact h
  | ret d μ => exact h
  | exc c fs δ μ => exact h
  | stuck => exact h
theorem s_while (fuel : Env3 → Mu → Nat) (hp : PassesOwn (model X.prog X.w) X.A X.env X.xe) (hc : T3 X G W c Ft) (hb : B3 X G W body B) : S3 X G W (.While c body [] pos) (sWhile fuel Ft B) :=
  ps_imp (ps_while hp hc hb) fun E σ H ⟨ι, M, δ, μ, So, R, f⟩ => by
    refine ⟨fun m σ H => ∃ ι M δ μ, Sto X.K G ι M H μ ∧ REnv X.K G ι M σ δ ∧ FinS X.K G W ι M (whileL Ft B m δ μ) E, ⟨_, ι, M, δ, μ, So, R, f⟩, ?_⟩
    rintro m σ H ⟨ι, M, δ, μ, So, R, f⟩
    cases m with
    | zero => exact f.elim
    | succ m =>
      refine ⟨ι, M, δ, μ, So, R, (FinS.ofE R f).imp fun ι1 M1 H1 μ1 b p1 x1 S1 q => ?_⟩
      cases b with
      | false => exact q ι1 M1 H1 σ (Nx.refl S1) (R.mono p1 x1)
      | true =>
        refine ⟨fun σ' H' => ∃ ι M δ μ, Sto X.K G ι M H' μ ∧ REnv X.K G ι M σ' δ ∧ FinS X.K G W ι M (whileL Ft B m δ μ) E, fun σ' H' w => ⟨m, Nat.lt_succ_self m, w⟩, ?_⟩
        exact ⟨ι1, M1, δ, μ1, S1, R.mono p1 x1, FinS.loop q fun ι' M' H' σ' δ' μ' _ _ S' R' f' => ⟨ι', M', δ', μ', S', R', f'⟩⟩
end

/-! ### what is walked -/
/-- cells that are walked hold what they held -/
def gOk (gs : List (Nat × List D)) (μ : Mu) : Prop := ∀ p, p ∈ gs → μ[p.1]? = some (.lst p.2)
noncomputable instance gOk_dec {gs : List (Nat × List D)} {μ : Mu} : Decidable (gOk gs μ) := Classical.propDecidable _
theorem gOk_nil {μ : Mu} : gOk [] μ := fun _ h => nomatch h
theorem gOk_one {i : Nat} {ds : List D} {μ : Mu} : gOk [(i, ds)] μ ↔ μ[i]? = some (.lst ds) := ⟨fun h => h (i, ds) (List.mem_cons_self ..), fun h p hp => by
  rcases List.mem_cons.mp hp with rfl | hp
  · exact h
  · cases hp⟩
theorem gOk_app {g g' : List (Nat × List D)} {μ : Mu} : gOk (g ++ g') μ ↔ gOk g μ ∧ gOk g' μ := ⟨fun h => ⟨fun p hp => h p (List.mem_append_left _ hp), fun p hp => h p (List.mem_append_right _ hp)⟩, fun ⟨h1, h2⟩ p hp => by
  rcases List.mem_append.mp hp with hp | hp
  · exact h1 p hp
  · exact h2 p hp⟩
/-- an iterator that gives these items, while the cells it walks stay -/
def ItD (K : PySem.W.Frag) (G : Gx) (J : It) (ds : List D) (gs : List (Nat × List D)) (ι : List Addr) (M : Hp) : Prop :=
  ∀ ι' M' H μ, Pre ι ι' → Ex M M' → Sto K G ι' M' H μ → gOk gs μ → ∀ i : Nat, (i = ds.length → J.stop i H) ∧
    ∀ d, ds[i]? = some d → J.go i H ∧ ∀ x H', J.yld i H x H' → ∃ M2, Ex M' M2 ∧ Sto K G ι' M2 H' μ ∧ Rep K G ι' M2 x d
theorem ItD.mono {K : PySem.W.Frag} {G : Gx} {J : It} {ds : List D} {gs : List (Nat × List D)} {ι ι' : List Addr} {M M' : Hp} (h : ItD K G J ds gs ι M) (p : Pre ι ι') (x : Ex M M') : ItD K G J ds gs ι' M' := fun i2 m2 H μ p2 x2 S => h i2 m2 H μ (p.trans p2) (x.trans x2) S
/-- the items, the cells that must stay meanwhile -/
abbrev It3 := List D × List (Nat × List D)
abbrev FI := Env3 → PM It3
def tI (K : PySem.W.Frag) (G : Gx) (W : WX) (F : FI) : TI := fun σ H R => ∃ ι M δ μ, Sto K G ι M H μ ∧ REnv K G ι M σ δ ∧ Fin3 K G W σ ι M (F δ μ) (fun ι' M' H' _ p => ∀ J, ItD K G J p.1 p.2 ι' M' → R J H')
abbrev I3 (X : Cx) (G : Gx) (W : WX) (tg e : Expr) (F : FI) : Prop := PI X tg e (tI X.K G W F)
theorem pi_imp {X : Cx} {tg e : Expr} {t t' : TI} (h : PI X tg e t) (k : ∀ σ H R, t' σ H R → t σ H R) : PI X tg e t' := ⟨fun pins s σ H R I q => h.run pins s σ H R I (k σ H R q)⟩
/-- a list or a tuple -/
def iAny (K : PySem.W.Frag) (tl : TE) : TI := fun σ H R => tl σ H fun x H1 => ∃ a, x = .ref a ∧ (((∃ xs, SqL K H1 a xs) ∧ R (Itl K a) H1) ∨ ((∃ xs, SqT K H1 a xs) ∧ R (Itt K a) H1))
section
variable {X : Cx} {G : Gx} {W : WX} {tg : Expr}
theorem pi_any {l : Expr} {tl : TE} (hl : PE X l tl) : PI X tg l (iAny X.K tl) := by
  refine ⟨fun pins s σ H R I h => ?_⟩
  refine thn (hl.run pins s σ H _ I h) fun v s1 ⟨x, H1, I1, r1, q1⟩ => ?_
  obtain ⟨a, e, q⟩ := q1
  subst e
  cases r1
  rcases q with ⟨⟨xs, hq⟩, q⟩ | ⟨⟨xs, hq⟩, q⟩
  · obtain ⟨its, rv, p, hz⟩ := I1.list hq
    refine wpAny_pyIter_list p.isList ?_
    refine ⟨s1.heap.objs.size, [s1.heap.objs.size], _, _, H1, rfl, I1.kept (t' := s1.toks) fun b o e => Heap.get?_push_of_some _ e, turn_list a _, ⟨_, Heap.get?_push_size _ rfl, rfl, rfl⟩, fun b hb => ?_, q⟩
    have e : b = s1.heap.objs.size := by simpa using hb
    subst e
    exact I1.fpOk (Nat.le_refl _) (I1.hok.fresh (Nat.le_refl _))
  · obtain ⟨its, rv, p, hz⟩ := I1.tuple hq
    refine wpAny_pyIter_tuple (show s1.heap.IsTuple a its.toArray from p) ?_
    refine ⟨s1.heap.objs.size, [s1.heap.objs.size], _, _, H1, rfl, I1.kept (t' := s1.toks) fun b o e => Heap.get?_push_of_some _ e, turn_tuple a _, ⟨_, Heap.get?_push_size _ rfl, rfl, rfl⟩, fun b hb => ?_, q⟩
    have e : b = s1.heap.objs.size := by simpa using hb
    subst e
    exact I1.fpOk (Nat.le_refl _) (I1.hok.fresh (Nat.le_refl _))
/-- a text's signs -/
def chars (x : Str) : List D := x.cps.toList.map fun c => D.str ⟨#[c]⟩
@[reducible] def iTxt (Fe : FE) : FI := fun δ μ => (Fe δ μ).bind fun d μ => match d with
  | .str x => .ok (chars x, []) μ
  | _ => .stuck
/-- a list or a tuple to be walked -/
def walkOf (d : D) (μ : Mu) : Option It3 := match d with
  | .tup ds => some (ds, [])
  | .lst ds => some (ds, [])
  | .klst ds => some (ds, [])
  | .cell i => (match μ[i]? with
    | some (.lst ds) => some (ds, [(i, ds)])
    | _ => none)
  | _ => none
@[reducible] def iSeq (Fe : FE) : FI := fun δ μ => (Fe δ μ).bind fun d μ => match walkOf d μ with
  | some p => .ok p μ
  | none => .stuck
/-- the list at a holds these, while the cells stay -/
def SrcL (K : PySem.W.Frag) (G : Gx) (a : Addr) (ds : List D) (gs : List (Nat × List D)) (ι : List Addr) (M : Hp) : Prop :=
  ∀ ι' M' H μ, Pre ι ι' → Ex M M' → Sto K G ι' M' H μ → gOk gs μ → ∃ xs, SqL K H a xs ∧ Reps K G ι' M' xs ds
def SrcT (K : PySem.W.Frag) (G : Gx) (a : Addr) (ds : List D) (gs : List (Nat × List D)) (ι : List Addr) (M : Hp) : Prop :=
  ∀ ι' M' H μ, Pre ι ι' → Ex M M' → Sto K G ι' M' H μ → gOk gs μ → ∃ xs, SqT K H a xs ∧ Reps K G ι' M' xs ds
def isTupD : D → Bool
  | .tup _ => true
  | _ => false
theorem walk_src {K : PySem.W.Frag} {ι : List Addr} {M H : Hp} {μ : Mu} {v : V} {d : D} {p : It3} (S : Sto K G ι M H μ) (r : Rep K G ι M v d) (e : walkOf d μ = some p) :
    ∃ a, v = .ref a ∧ ((isTupD d = false ∧ SrcL K G a p.1 p.2 ι M ∧ ∃ xs, SqL K H a xs) ∨ (isTupD d = true ∧ SrcT K G a p.1 p.2 ι M ∧ ∃ xs, SqT K H a xs)) := by
  cases d with
  | tup ds =>
    cases e
    obtain ⟨a, xs, rfl, h, rs⟩ := rep_tup r
    exact ⟨a, rfl, .inr ⟨rfl, fun ι' M' H' μ' q x S' _ => ⟨xs, h.ext (x.trans S'.fz), rs.mono q x⟩, xs, h.ext S.fz⟩⟩
  | lst ds =>
    cases e
    obtain ⟨a, xs, rfl, h, rs⟩ := rep_lst r
    exact ⟨a, rfl, .inl ⟨rfl, fun ι' M' H' μ' q x S' _ => ⟨xs, (SqL.of h).ext (x.trans S'.fz), rs.mono q x⟩, xs, (SqL.of h).ext S.fz⟩⟩
  | klst ds =>
    cases e
    obtain ⟨a, xs, rfl, h, rs⟩ := rep_klst r
    exact ⟨a, rfl, .inl ⟨rfl, fun ι' M' H' μ' q x S' _ => ⟨xs, h.ext (x.trans S'.fz), rs.mono q x⟩, xs, h.ext S.fz⟩⟩
  | cell i =>
    obtain ⟨a, rfl, hi⟩ := rep_cell r
    have e2 : (match μ[i]? with
      | some (.lst ds) => some (ds, [(i, ds)])
      | _ => none) = some p := e
    cases q : μ[i]? with
    | none => rw [q] at e2; cases e2
    | some c =>
      rw [q] at e2
      cases c with
      | lst ds =>
        cases e2
        obtain ⟨_, xs, h1, _⟩ := S.at_ i a _ hi q
        refine ⟨a, rfl, .inl ⟨rfl, fun ι' M' H' μ' pr x S' g => ?_, xs, SqL.of h1⟩⟩
        obtain ⟨_, ys, h2, rs⟩ := S'.at_ i a _ (pr _ _ hi) (gOk_one.mp g)
        exact ⟨ys, SqL.of h2, rs⟩
      | _ => cases e2
  | _ => cases e
theorem itd_list {K : PySem.W.Frag} {ι : List Addr} {M : Hp} {a : Addr} {ds : List D} {gs : List (Nat × List D)} (h : SrcL K G a ds gs ι M) : ItD K G (Itl K a) ds gs ι M := fun ι' M' H μ p x S g i => by
  obtain ⟨xs, hx, r⟩ := h ι' M' H μ p x S g
  refine ⟨fun l => ⟨xs, hx, by rw [r.length]; omega⟩, fun d e => ?_⟩
  obtain ⟨v, h1, h2⟩ := r.getD e
  refine ⟨⟨xs, v, hx, h1⟩, fun y H' ⟨e1, q⟩ => ?_⟩
  subst e1
  have e3 := q xs hx
  rw [h1] at e3
  cases e3
  exact ⟨M', Ext.rfl', S, h2⟩
theorem itd_tup {K : PySem.W.Frag} {ι : List Addr} {M : Hp} {a : Addr} {ds : List D} {gs : List (Nat × List D)} (h : SrcT K G a ds gs ι M) : ItD K G (Itt K a) ds gs ι M := fun ι' M' H μ p x S g i => by
  obtain ⟨xs, hx, r⟩ := h ι' M' H μ p x S g
  refine ⟨fun l => ⟨xs, hx, by rw [r.length]; omega⟩, fun d e => ?_⟩
  obtain ⟨v, h1, h2⟩ := r.getD e
  refine ⟨⟨xs, v, hx, h1⟩, fun y H' ⟨e1, q⟩ => ?_⟩
  subst e1
  have e3 := q xs hx
  rw [h1] at e3
  cases e3
  exact ⟨M', Ext.rfl', S, h2⟩
end
end L3

set_option maxRecDepth 100000
set_option maxHeartbeats 2000000
namespace L3
open PySem PySem.Spec PyProof.Rows L2

section
variable {X : Cx} {G : Gx} {W : WX} {tg : Expr} {e : Expr} {Fe : FE} {Fa : FA}
/-- a list, a tuple -/
theorem i_seq (he : E3 X G W e Fe) : I3 X G W tg e (iSeq Fe) := pi_imp (pi_any he) fun σ H R ⟨ι, M, δ, μ, S, Rn, f⟩ =>
  ⟨ι, M, δ, μ, S, Rn, (Fin3.bind f).imp fun ι1 M1 H1 μ1 d p1 x1 S1 q v rv => by
    cases ew : walkOf d μ1 with
    | none => rw [ew] at q; exact q.elim
    | some p =>
      rw [ew] at q
      obtain ⟨a, rfl, k⟩ := walk_src S1 rv ew
      rcases k with ⟨_, k, k2⟩ | ⟨_, k, k2⟩
      · exact ⟨a, rfl, .inl ⟨k2, q ι1 M1 H1 (Nx.refl S1) _ (itd_list k)⟩⟩
      · exact ⟨a, rfl, .inr ⟨k2, q ι1 M1 H1 (Nx.refl S1) _ (itd_tup k)⟩⟩⟩
/-- a text -/
theorem itd_txt {K : PySem.W.Frag} {ι : List Addr} {M : Hp} {x : Str} : ItD K G (Its x) (chars x) [] ι M := fun ι' M' H μ p q S _ i => by
  have l : (chars x).length = x.cps.size := by simp [chars]
  refine ⟨fun e => by rw [l] at e; exact (show x.cps.size ≤ i by omega), fun d e => ?_⟩
  have hi : i < x.cps.size := by rw [← l]; exact (List.getElem?_eq_some_iff.mp e).1
  refine ⟨hi, fun y H' ⟨e1, c, e2, e3⟩ => ?_⟩
  subst e1
  subst e3
  have : (chars x)[i]? = some (.str ⟨#[c]⟩) := by
    unfold chars
    rw [List.getElem?_map, Array.getElem?_toList, e2]
    rfl
  rw [this] at e
  cases e
  exact ⟨M', Ext.rfl', S, .str⟩
theorem i_txt (he : E3 X G W e Fe) : I3 X G W tg e (iTxt Fe) := pi_imp (pi_str he) fun σ H R ⟨ι, M, δ, μ, S, Rn, f⟩ =>
  ⟨ι, M, δ, μ, S, Rn, (Fin3.bind f).imp fun ι1 M1 H1 μ1 d p1 x1 S1 q v rv => by
    cases d with
    | str x =>
      cases rv
      exact ⟨x, rfl, q ι1 M1 H1 (Nx.refl S1) _ itd_txt⟩
    | _ => exact q.elim⟩
/-- lo, lo + 1, .. -/
def irange (lo : Int) (n : Nat) : List D := (List.range n).map fun i => D.int (lo + (i : Nat))
def smallI (i : Int) : Bool := decide (-(2 ^ 62) ≤ i) && decide (i < 2 ^ 62)
theorem irange_get {lo : Int} {n i : Nat} {d : D} (h : (irange lo n)[i]? = some d) : i < n ∧ d = .int (lo + (i : Nat)) := by
  unfold irange at h
  rw [List.getElem?_map] at h
  by_cases l : i < n
  · rw [List.getElem?_range l] at h
    exact ⟨l, (Option.some.inj h).symm⟩
  · rw [List.getElem?_eq_none (by simpa using Nat.le_of_not_lt l)] at h
    cases h
theorem irange_len {lo : Int} {n : Nat} : (irange lo n).length = n := by simp [irange]
theorem itd_range {K : PySem.W.Frag} {ι : List Addr} {M : Hp} {lo : Int} {n : Nat} : ItD K G (Itr lo n) (irange lo n) [] ι M := fun ι' M' H μ p x S _ i => by
  refine ⟨fun l => by rw [irange_len] at l; exact (show n ≤ i by omega), fun d e => ?_⟩
  obtain ⟨l, rfl⟩ := irange_get e
  refine ⟨l, fun y H' ⟨e1, e2⟩ => ?_⟩
  subst e1
  subst e2
  exact ⟨M', Ext.rfl', S, .int⟩
@[reducible] def iRange1 (Fa : FA) : FI := fun δ μ => (Fa δ μ).bind fun ds μ => match ds with
  | [.int j] => if smallI j = true then .ok (irange 0 j.toNat, []) μ else .stuck
  | _ => .stuck
@[reducible] def iRange2 (Fa : FA) : FI := fun δ μ => (Fa δ μ).bind fun ds μ => match ds with
  | [.int i, .int j] => if smallI i = true ∧ smallI j = true then .ok (irange i (j - i).toNat, []) μ else .stuck
  | _ => .stuck
theorem small_of {i : Int} (h : smallI i = true) : -(2 ^ 62) ≤ i ∧ i < 2 ^ 62 := ⟨of_decide_eq_true (Bool.and_eq_true_iff.mp h).1, of_decide_eq_true (Bool.and_eq_true_iff.mp h).2⟩
theorem reps1 {K : PySem.W.Frag} {ι : List Addr} {M : Hp} {vs : List V} {d : D} (h : Reps K G ι M vs [d]) : ∃ v, vs = [v] ∧ Rep K G ι M v d := by
  cases h with
  | cons a r => cases r; exact ⟨_, rfl, a⟩
theorem reps2 {K : PySem.W.Frag} {ι : List Addr} {M : Hp} {vs : List V} {d d' : D} (h : Reps K G ι M vs [d, d']) : ∃ v v', vs = [v, v'] ∧ Rep K G ι M v d ∧ Rep K G ι M v' d' := by
  cases h with
  | cons a r => obtain ⟨v', rfl, b⟩ := reps1 r; exact ⟨_, _, rfl, a, b⟩
theorem reps3 {K : PySem.W.Frag} {ι : List Addr} {M : Hp} {vs : List V} {d d' d'' : D} (h : Reps K G ι M vs [d, d', d'']) : ∃ v v' v'', vs = [v, v', v''] ∧ Rep K G ι M v d ∧ Rep K G ι M v' d' ∧ Rep K G ι M v'' d'' := by
  cases h with
  | cons a r => obtain ⟨v', v'', rfl, b, c⟩ := reps2 r; exact ⟨_, _, _, rfl, a, b, c⟩
theorem i_range1 {a : Expr} {p pos : Pos} (hm : X.mg "range" = none) (ha : A3 X G W [a] Fa) (hg : Gl X "range" := by rfl) (hs : starEach [a] X.env = [(false, eval a X.env)] := by rfl) : I3 X G W tg (.Call (.Name "range" p) [a] [] pos) (iRange1 Fa) :=
  pi_imp (pi_range1 hg hm ha hs) fun σ H R ⟨ι, M, δ, μ, S, Rn, f⟩ => ⟨ι, M, δ, μ, S, Rn, (Fin3.bind f).imp fun ι1 M1 H1 μ1 ds p1 x1 S1 q vs rvs => by
    cases ds with
    | nil => exact q.elim
    | cons d r =>
      cases r with
      | cons _ _ => cases d <;> exact q.elim
      | nil =>
        cases d with
        | int j =>
          obtain ⟨v, rfl, r⟩ := reps1 rvs
          have q2 : Fin3 X.K G W σ ι1 M1 (if smallI j = true then .ok (irange 0 j.toNat, []) μ1 else .stuck) (fun ι' M' H' _ p => ∀ J, ItD X.K G J p.1 p.2 ι' M' → R J H') := q
          by_cases c : smallI j = true
          · rw [if_pos c] at q2
            exact ⟨j, by rw [rep_int r], (small_of c).1, (small_of c).2, q2 ι1 M1 H1 (Nx.refl S1) _ itd_range⟩
          · rw [if_neg c] at q2
            exact q2.elim
        | _ => exact q.elim⟩
theorem i_range2 {a b : Expr} {p pos : Pos} (hm : X.mg "range" = none) (ha : A3 X G W [a, b] Fa) (hg : Gl X "range" := by rfl) (hs : starEach [a, b] X.env = [(false, eval a X.env), (false, eval b X.env)] := by rfl) (hs2 : starEach [b] X.env = [(false, eval b X.env)] := by rfl) : I3 X G W tg (.Call (.Name "range" p) [a, b] [] pos) (iRange2 Fa) :=
  pi_imp (pi_range2 hg hm ha hs hs2) fun σ H R ⟨ι, M, δ, μ, S, Rn, f⟩ => ⟨ι, M, δ, μ, S, Rn, (Fin3.bind f).imp fun ι1 M1 H1 μ1 ds p1 x1 S1 q vs rvs => by
    cases ds with
    | nil => exact q.elim
    | cons d r =>
      cases r with
      | nil => cases d <;> exact q.elim
      | cons d' r =>
        cases r with
        | cons _ _ => cases d <;> cases d' <;> exact q.elim
        | nil =>
          cases d with
          | int i =>
            cases d' with
            | int j =>
              obtain ⟨v, v', rfl, r, r'⟩ := reps2 rvs
              have q2 : Fin3 X.K G W σ ι1 M1 (if smallI i = true ∧ smallI j = true then .ok (irange i (j - i).toNat, []) μ1 else .stuck) (fun ι' M' H' _ p => ∀ J, ItD X.K G J p.1 p.2 ι' M' → R J H') := q
              by_cases c : smallI i = true ∧ smallI j = true
              · rw [if_pos c] at q2
                exact ⟨i, j, by rw [rep_int r, rep_int r'], ⟨(small_of c.1).1, (small_of c.1).2, (small_of c.2).1, (small_of c.2).2⟩, q2 ι1 M1 H1 (Nx.refl S1) _ itd_range⟩
              · rw [if_neg c] at q2
                exact q2.elim
            | _ => exact q.elim
          | _ => cases d' <;> exact q.elim⟩
end

/-! ### for -/
/-- the targets: a name | a tuple of names -/
inductive Tg where
  | one (i : Nat) | tup (is : List Nat)
def Tg.put : Tg → D → Env3 → Option Env3
  | .one i, d, δ => some (δ.set i (some d))
  | .tup is, d, δ => match d with
    | .tup ds => setAll is ds δ
    | _ => none
/-- a target's rule -/
structure G3 (X : Cx) (tg : Expr) (t : Tg) : Prop where
  ex : ∃ g : TG, PG X tg g ∧ ∀ (G : Gx) (ι : List Addr) (M : Hp) (μ : Mu) (v : V) (d : D) (σ : L2.St) (δ δ' : Env3) (H : Hp) (Q : L2.St → Hp → Prop), Sto X.K G ι M H μ → Rep X.K G ι M v d → REnv X.K G ι M σ δ → t.put d δ = some δ' → (∀ σ', REnv X.K G ι M σ' δ' → Q σ' H) → g v σ H Q
theorem setAll_len : ∀ (is : List Nat) (ds : List D) (δ δ' : Env3), setAll is ds δ = some δ' → ds.length = is.length := by
  intro is
  induction is with
  | nil => intro ds δ δ' h; cases ds with
    | nil => rfl
    | cons _ _ => cases h
  | cons i is ih => intro ds δ δ' h; cases ds with
    | nil => cases h
    | cons d ds => exact congrArg Nat.succ (ih _ _ _ h)
section
variable {X : Cx} {G : Gx} {W : WX}
theorem g_one {i : Nat} {x : Str} {pos : Pos} (hN : X.N.Nodup) (hi : X.N[i]? = some x := by rfl) (hx : Loc X.env.scope x := by first | exact Or.inl rfl | exact Or.inr rfl) (hf : X.fn x = true ∨ X.env.scope.names.lookup x = some .local := by first | exact .inl rfl | exact .inr rfl | assumption) :
    G3 X (.Name x pos) (.one i) := ⟨gName i, pg_name hN hi hx hf, fun G ι M μ v d σ δ δ' H Q S r R e q => by
  cases (show some (δ.set i (some d)) = some δ' from e)
  exact q _ (R.set r)⟩
theorem g_tup {es : List Expr} {is : List Nat} {k : Nat} {pos : Pos} (hc : X.calm = true) (hu : U3 X es is) (hn : (assignEach es X.env).length = is.length := by rfl) (hst : (assignEach es X.env).findIdx? (·.1) = none := by rfl) : G3 X (.Tuple es k pos) (.tup is) := by
  obtain ⟨g, hg, hq⟩ := hu.ex
  refine ⟨gTup X.K is.length g, pg_tup hc hg hn hst, fun G ι M μ v d σ δ δ' H Q S r R e q => ?_⟩
  cases d with
  | tup ds =>
    obtain ⟨a, xs, rfl, ht, rs⟩ := rep_tup r
    have e2 : setAll is ds δ = some δ' := e
    exact ⟨a, xs, rfl, ht.ext S.fz, by rw [rs.length]; exact setAll_len _ _ _ _ e2, hq X.K G ι M xs ds σ δ δ' H Q rs R e2 q⟩
  | _ => cases e
/-- the loop -/
def forL (t : Tg) (B : FS) : List D → Env3 → Mu → RS
  | [], δ, μ => .nx δ μ
  | d :: ds, δ, μ => match t.put d δ with
    | some δ' => (B δ' μ).loop (forL t B ds)
    | none => .stuck
/-- .. while the cells that are walked stay -/
noncomputable def forG (t : Tg) (B : FS) (gs : List (Nat × List D)) : List D → Env3 → Mu → RS
  | [], δ, μ => if gOk gs μ then .nx δ μ else .stuck
  | d :: ds, δ, μ => if gOk gs μ then (match t.put d δ with
    | some δ' => (B δ' μ).loop (forG t B gs ds)
    | none => .stuck) else .stuck
theorem forG_nil {t : Tg} {B : FS} : forG t B [] = forL t B := by
  funext ds
  induction ds with
  | nil => funext δ μ; exact if_pos gOk_nil
  | cons d ds ih =>
    funext δ μ
    show (if gOk [] μ then (match t.put d δ with | some δ' => (B δ' μ).loop (forG t B [] ds) | none => .stuck) else .stuck) = _
    rw [if_pos gOk_nil, ih]
    rfl
@[reducible] noncomputable def sFor (t : Tg) (Fi : FI) (B : FS) : FS := fun δ μ => (Fi δ μ).toS δ fun p μ => forG t B p.2 p.1 δ μ
theorem FinI {K : PySem.W.Frag} {ι : List Addr} {M : Hp} {r : RS} {g : FS} {E : Ends} (h : FinS K G W ι M r E) : FinS K G W ι M r E := h
theorem s_for {tg iter : Expr} {body : List Stmt} {t : Tg} {Fi : FI} {B : FS} {pos : Pos} (hp : PassesOwn (model X.prog X.w) X.A X.env X.xe) (hc : X.calm = true) (hi : I3 X G W tg iter Fi) (hg : G3 X tg t) (hb : B3 X G W body B)
    (h : ∀ {wi : TI} {g : TG} {tb : TS}, PI X tg iter wi → PG X tg g → PSs X body tb → PS X (.For tg iter body [] pos) (tFor wi g tb)) : S3 X G W (.For tg iter body [] pos) (sFor t Fi B) := by
  obtain ⟨g, hg1, hg2⟩ := hg.ex
  refine ps_imp (h hi hg1 hb) fun E σ H ⟨ι, M, δ, μ, So, R, f⟩ => ⟨ι, M, δ, μ, So, R, (FinS.ofE R f).imp fun ι1 M1 H1 μ1 pp p1 x1 S1 q J hJ => ?_⟩
  obtain ⟨ds, gs⟩ := pp
  refine ⟨fun i m σ H => m = ds.length - i ∧ i ≤ ds.length ∧ ∃ ι2 M2 δ μ, Pre ι1 ι2 ∧ Ex M1 M2 ∧ Sto X.K G ι2 M2 H μ ∧ REnv X.K G ι2 M2 σ δ ∧ FinS X.K G W ι2 M2 (forG t B gs (ds.drop i) δ μ) E,
    ⟨_, rfl, Nat.zero_le _, ι1, M1, δ, μ1, Pre.refl _, Ext.rfl', S1, R.mono p1 x1, by rw [List.drop_zero]; exact q⟩, ?_⟩
  rintro i m σ H ⟨rfl, le, ι2, M2, δ, μ, p2, x2, S2, R2, f2⟩
  by_cases l : i < ds.length
  · right
    have e : ds[i]? = some ds[i] := List.getElem?_eq_getElem l
    rw [List.drop_eq_getElem_cons l] at f2
    unfold forG at f2
    split at f2
    · rename_i gk
      obtain ⟨go, yl⟩ := (hJ ι2 M2 H μ p2 x2 S2 gk i).2 _ e
      refine ⟨go, fun σ' H' => ∃ ι3 M3 δ μ, Pre ι1 ι3 ∧ Ex M1 M3 ∧ Sto X.K G ι3 M3 H' μ ∧ REnv X.K G ι3 M3 σ' δ ∧ FinS X.K G W ι3 M3 (forG t B gs (ds.drop (i + 1)) δ μ) E, fun σ' H' w => ⟨ds.length - (i + 1), by omega, rfl, by omega, w⟩, fun x H' y => ?_⟩
      obtain ⟨M3, x3, S3', r3⟩ := yl x H' y
      cases e4 : t.put ds[i] δ with
      | none => rw [e4] at f2; exact f2.elim
      | some δ' =>
        rw [e4] at f2
        refine hg2 G ι2 M3 μ x ds[i] σ δ δ' H' _ S3' r3 (R2.mono (Pre.refl _) x3) e4 fun σ' R' => ?_
        refine ⟨ι2, M3, δ', μ, S3', R', FinS.loop (FinS.mono (Pre.refl _) x3 f2) fun ι' M' H' σ' δ' μ' p' x' S' R' f' => ?_⟩
        exact ⟨ι', M', δ', μ', p2.trans p', (x2.trans x3).trans x', S', R', f'⟩
    · exact f2.elim
  · left
    have l' : i = ds.length := by omega
    rw [List.drop_of_length_le (by omega)] at f2
    unfold forG at f2
    split at f2
    · rename_i gk
      exact ⟨(hJ ι2 M2 H μ p2 x2 S2 gk i).1 l', f2 ι2 M2 H σ (Nx.refl S2) R2⟩
    · exact f2.elim
end

/-! ### subscripts -/
@[reducible] def ixD : D → D → PM D := fun x y μ => match y with
  | .int i => (match x with
    | .tup ds => (match atI ds i with
      | some d => .ok d μ
      | none => .stuck)
    | .lst ds => (match atI ds i with
      | some d => .ok d μ
      | none => .stuck)
    | .klst ds => (match atI ds i with
      | some d => .ok d μ
      | none => .stuck)
    | .cell j => (match μ[j]? with
      | some (.lst ds) => (match atI ds i with
        | some d => .ok d μ
        | none => .stuck)
      | _ => .stuck)
    | .str z => (match atI z.cps.toList i with
      | some c => if z.length ≤ 1000000 then .ok (.str ⟨#[c]⟩) μ else .stuck
      | none => .stuck)
    | _ => .stuck)
  | _ => .stuck
section
variable {K : PySem.W.Frag} {G : Gx} {W : WX}
theorem atI_rep {ι : List Addr} {M : Hp} {xs : List V} {ds : List D} {i : Int} {d : D} (r : Reps K G ι M xs ds) (h : atI ds i = some d) : ∃ v, atI xs i = some v ∧ Rep K G ι M v d := by
  unfold atI at h ⊢
  rw [r.length]
  cases e : ixN ds.length i with
  | none => rw [e] at h; cases h
  | some j =>
    rw [e] at h
    exact r.getD h
theorem Sto.lst {ι : List Addr} {M H : Hp} {μ : Mu} (S : Sto K G ι M H μ) {j : Nat} {ds : List D} {v : V} (e : μ[j]? = some (.lst ds)) (r : Rep K G ι M v (.cell j)) : ∃ a xs, v = .ref a ∧ ι[j]? = some a ∧ H a = some (.lst xs) ∧ Reps K G ι M xs ds := by
  obtain ⟨a, rfl, h⟩ := rep_cell r
  obtain ⟨_, xs, h1, h2⟩ := S.at_ j a _ h e
  exact ⟨a, xs, rfl, h, h1, h2⟩
theorem op2_ix : Op2 K G W (rIx K) ixD := by
  intro σ ι M H μ x y v u Q S rx ry q
  cases y with
  | int i =>
    cases rep_int ry
    have q : Fin3 K G W σ ι M (match x with
      | .tup ds => (match atI ds i with
        | some d => Res.ok d μ
        | none => .stuck)
      | .lst ds => (match atI ds i with
        | some d => .ok d μ
        | none => .stuck)
      | .klst ds => (match atI ds i with
        | some d => .ok d μ
        | none => .stuck)
      | .cell j => (match μ[j]? with
        | some (.lst ds) => (match atI ds i with
          | some d => .ok d μ
          | none => .stuck)
        | _ => .stuck)
      | .str z => (match atI z.cps.toList i with
        | some c => if z.length ≤ 1000000 then .ok (.str ⟨#[c]⟩) μ else .stuck
        | none => .stuck)
      | _ => .stuck) (fun ι' M' H' _ d => ∀ w, Rep K G ι' M' w d → Q w H') := q
    cases x with
    | tup ds =>
      obtain ⟨a, xs, rfl, h, r⟩ := rep_tup rx
      dsimp only at q
      cases e : atI ds i with
      | none => rw [e] at q; exact q.elim
      | some d =>
        rw [e] at q
        obtain ⟨w, h1, h2⟩ := atI_rep r e
        exact .inr (.inl ⟨a, xs, i, w, rfl, rfl, h.ext S.fz, h1, q ι M H (Nx.refl S) w h2⟩)
    | lst ds =>
      obtain ⟨a, xs, rfl, h, r⟩ := rep_lst rx
      dsimp only at q
      cases e : atI ds i with
      | none => rw [e] at q; exact q.elim
      | some d =>
        rw [e] at q
        obtain ⟨w, h1, h2⟩ := atI_rep r e
        exact .inl ⟨a, xs, i, w, rfl, rfl, SqL.of (S.fz _ _ h), h1, q ι M H (Nx.refl S) w h2⟩
    | klst ds =>
      obtain ⟨a, xs, rfl, h, r⟩ := rep_klst rx
      dsimp only at q
      cases e : atI ds i with
      | none => rw [e] at q; exact q.elim
      | some d =>
        rw [e] at q
        obtain ⟨w, h1, h2⟩ := atI_rep r e
        exact .inl ⟨a, xs, i, w, rfl, rfl, h.ext S.fz, h1, q ι M H (Nx.refl S) w h2⟩
    | cell j =>
      dsimp only at q
      cases e0 : μ[j]? with
      | none => rw [e0] at q; exact q.elim
      | some c =>
        rw [e0] at q
        cases c with
        | lst ds =>
          dsimp only at q
          obtain ⟨a, xs, rfl, h0, h, r⟩ := S.lst e0 rx
          cases e : atI ds i with
          | none => rw [e] at q; exact q.elim
          | some d =>
            rw [e] at q
            obtain ⟨w, h1, h2⟩ := atI_rep r e
            exact .inl ⟨a, xs, i, w, rfl, rfl, SqL.of h, h1, q ι M H (Nx.refl S) w h2⟩
        | _ => exact q.elim
    | str z =>
      cases rep_str rx
      dsimp only at q
      cases e : atI z.cps.toList i with
      | none => rw [e] at q; exact q.elim
      | some c =>
        rw [e] at q
        dsimp only at q
        by_cases l : z.length ≤ 1000000
        · rw [if_pos l] at q
          exact .inr (.inr ⟨z, i, c, rfl, rfl, line_of l, e, q ι M H (Nx.refl S) _ .str⟩)
        · rw [if_neg l] at q
          exact q.elim
    | _ => exact q.elim
  | _ => exact q.elim
end
section
variable {X : Cx} {G : Gx} {W : WX} {a b e : Expr} {Fa Fb Fe : FE} {pos : Pos}
theorem e_ix (ha : E3 X G W a Fa) (hb : E3 X G W b Fb) (hs : PlainIx b := by exact fun _ _ => rfl) : E3 X G W (.Subscript a b pos) (dBin ixD Fa Fb) := pe_imp (pe_ix ix_seq ha hb hs) (bin_imp op2_ix)
/-- xs[i] = e: the value first -/
@[reducible] def sSetIx (Fe Fo Fi : FE) : FS := fun δ μ => (Fe δ μ).toS δ fun d μ => (Fo δ μ).toS δ fun o μ => (Fi δ μ).toS δ fun i μ => match o, i with
  | .cell j, .int k => (match μ[j]? with
    | some (.lst ds) => (match ixN ds.length k with
      | some n => .nx δ (μ.set j (.lst (ds.set n d)))
      | none => .stuck)
    | _ => .stuck)
  | _, _ => .stuck
theorem s_setIx (he : E3 X G W e Fe) (ho : E3 X G W a Fa) (hi : E3 X G W b Fb) {tpos : Pos}
    (h : ∀ {te to ti : TE}, PE X e te → PE X a to → PE X b ti → PS X (.Assign [.Subscript a b tpos] e pos) (tAsg te (gSub to ti rSetL))) : S3 X G W (.Assign [.Subscript a b tpos] e pos) (sSetIx Fe Fa Fb) :=
  ps_imp (h he ho hi) fun E σ H ⟨ι, M, δ, μ, So, R, f⟩ => ⟨ι, M, δ, μ, So, R, (FinS.ofE R f).imp fun ι1 M1 H1 μ1 d p1 x1 S1 q v rv => by
    refine ⟨ι1, M1, δ, μ1, S1, R.mono p1 x1, (FinS.ofE (R.mono p1 x1) q).imp fun ι2 M2 H2 μ2 o p2 x2 S2 q2 ov ro => ?_⟩
    have R2 := (R.mono p1 x1).mono p2 x2
    refine ⟨ι2, M2, δ, μ2, S2, R2, (FinS.ofE R2 q2).imp fun ι3 M3 H3 μ3 i p3 x3 S3 q3 iv ri => ?_⟩
    have ro3 := ro.mono p3 x3
    have rv3 := (rv.mono p2 x2).mono p3 x3
    have R3 := R2.mono p3 x3
    cases o with
    | cell j =>
      cases i with
      | int k =>
        cases rep_int ri
        have q4 : FinS X.K G W ι3 M3 (match μ3[j]? with
          | some (.lst ds) => (match ixN ds.length k with
            | some n => .nx δ (μ3.set j (.lst (ds.set n d)))
            | none => .stuck)
          | _ => .stuck) E := q3
        cases e0 : μ3[j]? with
        | none => rw [e0] at q4; exact q4.elim
        | some c =>
          rw [e0] at q4
          cases c with
          | lst ds =>
            obtain ⟨ad, xs, rfl, h0, h, r⟩ := S3.lst e0 ro3
            dsimp only at q4
            cases e1 : ixN ds.length k with
            | none => rw [e1] at q4; exact q4.elim
            | some n =>
              rw [e1] at q4
              refine ⟨ad, xs, k, n, rfl, rfl, h, by rw [r.length]; exact e1, ?_⟩
              refine q4 ι3 M3 _ σ ⟨Pre.refl _, Ext.rfl', S3.write h0 ⟨_, upd_same, r.set n rv3⟩⟩ R3
          | _ => exact q4.elim
      | _ => exact q3.elim
    | _ => exact q3.elim⟩
end
end L3

set_option maxRecDepth 100000
set_option maxHeartbeats 2000000
namespace L3
open PySem PySem.Spec PyProof.Rows L2

/-! ### fields -/
/-- what the classes' table keeps -/
structure GOk (K : PySem.W.Frag) (G : Gx) : Prop where
  nd : ∀ c, (G.fN c).Nodup
  cls : ∀ c, G.fN c ≠ [] → Cls K (G.cA c)
  noat : ∀ c (j : Nat) x, (G.fN c)[j]? = some x → NoAttr K (G.cA c) x
  len : ∀ c, (G.fN c).length ≤ 50
def alk : List (Nat × Nat) → Nat → Option Nat
  | [], _ => none
  | (a, b) :: r, c => if a = c then some b else alk r c
/-- at these classes the name stands at these places -/
def FldAt (G : Gx) (x : Str) (l : List (Nat × Nat)) : Prop := ∀ p ∈ l, (G.fN p.1)[p.2]? = some x
theorem alk_mem : ∀ {l : List (Nat × Nat)} {c j : Nat}, alk l c = some j → (c, j) ∈ l
  | [], _, _, h => by cases h
  | (a, b) :: r, c, j, h => by
    unfold alk at h
    by_cases e : a = c
    · rw [if_pos e] at h
      cases h
      rw [e]
      exact List.mem_cons_self ..
    · rw [if_neg e] at h
      exact List.mem_cons_of_mem _ (alk_mem h)
theorem zip_lookup : ∀ {N : List Str} {vs : List V} {j : Nat} {x : Str} {v : V}, N.Nodup → N[j]? = some x → vs[j]? = some v → (N.zip vs).lookup x = some v
  | [], _, _, _, _, _, h, _ => by simp at h
  | n :: N, [], j, _, _, _, _, h => by simp at h
  | n :: N, u :: vs, 0, x, v, nd, h1, h2 => by
    simp at h1 h2
    subst h1
    subst h2
    simp [List.lookup]
  | n :: N, u :: vs, j + 1, x, v, nd, h1, h2 => by
    have h1' : N[j]? = some x := by simpa using h1
    have h2' : vs[j]? = some v := by simpa using h2
    have nd' := List.nodup_cons.mp nd
    have ne : x ≠ n := fun e => nd'.1 (e ▸ List.mem_of_getElem? h1')
    have q : (x == n) = false := by simpa using ne
    show List.lookup x ((n, u) :: N.zip vs) = some v
    simp only [List.lookup, q]
    exact zip_lookup nd'.2 h1' h2'
theorem zip_put_set : ∀ {N : List Str} {vs : List V} {j : Nat} {x : Str} {v : V}, N.Nodup → N[j]? = some x → j < vs.length → putF x v (N.zip vs) = N.zip (vs.set j v)
  | [], _, _, _, _, _, h, _ => by simp at h
  | n :: N, [], j, _, _, _, _, h => by simp at h
  | n :: N, u :: vs, 0, x, v, nd, h1, h2 => by
    simp at h1
    subst h1
    show (if n = n then (n, v) :: N.zip vs else _) = _
    rw [if_pos rfl]
    rfl
  | n :: N, u :: vs, j + 1, x, v, nd, h1, h2 => by
    have h1' : N[j]? = some x := by simpa using h1
    have nd' := List.nodup_cons.mp nd
    have ne : n ≠ x := fun e => nd'.1 (e ▸ List.mem_of_getElem? h1')
    show (if n = x then _ else (n, u) :: putF x v (N.zip vs)) = _
    rw [if_neg ne, zip_put_set nd'.2 h1' (by simpa using h2)]
    rfl
theorem zip_put_new : ∀ {N : List Str} {vs : List V} {x : Str} {v : V}, N.Nodup → N[vs.length]? = some x → putF x v (N.zip vs) = N.zip (vs ++ [v])
  | [], vs, _, _, _, h => by simp at h
  | n :: N, [], x, v, nd, h => by
    simp at h
    subst h
    simp [putF]
  | n :: N, u :: vs, x, v, nd, h => by
    have h1' : N[vs.length]? = some x := by simpa using h
    have nd' := List.nodup_cons.mp nd
    have ne : n ≠ x := fun e => nd'.1 (e ▸ List.mem_of_getElem? h1')
    show (if n = x then _ else (n, u) :: putF x v (N.zip vs)) = _
    rw [if_neg ne, zip_put_new nd'.2 h1']
    rfl
/-- an object's class and fields -/
def insOf (d : D) (μ : Mu) : Option (Nat × List D) := match d with
  | .ins c ds => some (c, ds)
  | .cell i => (match μ[i]? with
    | some (.ins c ds) => some (c, ds)
    | _ => none)
  | _ => none
@[reducible] def attrD (l : List (Nat × Nat)) : D → PM D := fun x μ => match insOf x μ with
  | some (c, ds) => (match alk l c with
    | some j => (match ds[j]? with
      | some d => .ok d μ
      | none => .stuck)
    | none => .stuck)
  | none => .stuck
@[reducible] def dAttr (l : List (Nat × Nat)) (Fe : FE) : FE := fun δ μ => (Fe δ μ).bind fun x μ => attrD l x μ
/-- o.f = e -/
@[reducible] def sAttr (l : List (Nat × Nat)) (Fe Fo : FE) : FS := fun δ μ => (Fe δ μ).toS δ fun d μ => (Fo δ μ).toS δ fun o μ => match o with
  | .cell i => (match μ[i]? with
    | some (.ins c ds) => (match alk l c with
      | some j => if j < ds.length then .nx δ (μ.set i (.ins c (ds.set j d))) else if j = ds.length then .nx δ (μ.set i (.ins c (ds ++ [d]))) else .stuck
      | none => .stuck)
    | _ => .stuck)
  | _ => .stuck
section
variable {K : PySem.W.Frag} {G : Gx} {ι : List Addr} {M H : Hp} {μ : Mu} {v : V} {d : D}
theorem Sto.ins (S : Sto K G ι M H μ) {c : Nat} {ds : List D} (e : insOf d μ = some (c, ds)) (r : Rep K G ι M v d) :
    ∃ a dx vs, v = .ref a ∧ H a = some (.ins (G.cA c) dx ((G.fN c).zip vs)) ∧ vs.length ≤ (G.fN c).length ∧ Reps K G ι M vs ds := by
  cases d with
  | ins c' ds' =>
    cases (show some (c', ds') = some (c, ds) from e)
    obtain ⟨a, dx, vs, rfl, h, l, r⟩ := rep_ins r
    exact ⟨a, dx, vs, rfl, S.fz _ _ h, l, r⟩
  | cell i =>
    have e2 : (match μ[i]? with
      | some (.ins c ds) => some (c, ds)
      | _ => none) = some (c, ds) := e
    obtain ⟨a, rfl, h⟩ := rep_cell r
    cases q : μ[i]? with
    | none => rw [q] at e2; cases e2
    | some cl =>
      rw [q] at e2
      cases cl with
      | ins c' ds' =>
        cases e2
        obtain ⟨_, dx, vs, h1, l, r⟩ := S.at_ i a _ h q
        exact ⟨a, dx, vs, rfl, h1, l, r⟩
      | _ => cases e2
  | _ => cases e
end
section
variable {X : Cx} {G : Gx} {W : WX} {e o : Expr} {Fe Fo : FE} {pos pos' : Pos} {x : Str} {l : List (Nat × Nat)}
theorem e_attr (GK : GOk X.K G) (hx : FldAt G x l) (he : E3 X G W e Fe) (hb : attributeBase e x X.env (eval e X.env) = eval e X.env := by rfl) : E3 X G W (.Attribute e x pos) (dAttr l Fe) :=
  pe_imp (pe_fld he hb) fun σ H Q ⟨ι, M, δ, μ, S, R, f⟩ => ⟨ι, M, δ, μ, S, R, (Fin3.bind f).imp fun ι1 M1 H1 μ1 d p1 x1 S1 q v rv => by
    unfold attrD at q
    cases e1 : insOf d μ1 with
    | none => rw [e1] at q; exact q.elim
    | some p =>
      obtain ⟨c, ds⟩ := p
      rw [e1] at q
      dsimp only at q
      cases e2 : alk l c with
      | none => rw [e2] at q; exact q.elim
      | some j =>
        rw [e2] at q
        dsimp only at q
        cases e3 : ds[j]? with
        | none => rw [e3] at q; exact q.elim
        | some d' =>
          rw [e3] at q
          obtain ⟨a, dx, vs, rfl, h, _, r⟩ := S1.ins e1 rv
          obtain ⟨u, h1, h2⟩ := r.getD e3
          have fx := hx _ (alk_mem e2)
          have ne : G.fN c ≠ [] := fun z => by
            have fx' : (G.fN c)[j]? = some x := fx
            rw [z] at fx'
            cases fx'
          exact ⟨a, G.cA c, dx, _, u, rfl, h, GK.cls c ne, GK.noat c j x fx, zip_lookup (GK.nd c) fx h1, q ι1 M1 H1 (Nx.refl S1) u h2⟩⟩
theorem s_attr (GK : GOk X.K G) (hx : FldAt G x l) (he : E3 X G W e Fe) (ho : E3 X G W o Fo) (hs : swapsWith e (some (.Attribute o x pos')) pos.line X.env = pure false := by rfl) : S3 X G W (.Assign [.Attribute o x pos'] e pos) (sAttr l Fe Fo) :=
  ps_imp (ps_fld ho he hs) fun E σ H ⟨ι, M, δ, μ, So, R, f⟩ => ⟨ι, M, δ, μ, So, R, (FinS.ofE R f).imp fun ι1 M1 H1 μ1 d p1 x1 S1 q v rv => by
    refine ⟨ι1, M1, δ, μ1, S1, R.mono p1 x1, (FinS.ofE (R.mono p1 x1) q).imp fun ι2 M2 H2 μ2 o p2 x2 S2 q2 ov ro => ?_⟩
    have R2 := (R.mono p1 x1).mono p2 x2
    have rv2 := rv.mono p2 x2
    cases o with
    | cell i =>
      have q3 : FinS X.K G W ι2 M2 (match μ2[i]? with
        | some (.ins c ds) => (match alk l c with
          | some j => if j < ds.length then .nx δ (μ2.set i (.ins c (ds.set j d))) else if j = ds.length then .nx δ (μ2.set i (.ins c (ds ++ [d]))) else .stuck
          | none => .stuck)
        | _ => .stuck) E := q2
      obtain ⟨a, rfl, h⟩ := rep_cell ro
      cases e1 : μ2[i]? with
      | none => rw [e1] at q3; exact q3.elim
      | some cl =>
        rw [e1] at q3
        cases cl with
        | ins c ds =>
          dsimp only at q3
          cases e2 : alk l c with
          | none => rw [e2] at q3; exact q3.elim
          | some j =>
            rw [e2] at q3
            dsimp only at q3
            obtain ⟨_, dx, vs, h1, le, r⟩ := S2.at_ i a _ h e1
            have fx : (G.fN c)[j]? = some x := hx _ (alk_mem e2)
            have ne : G.fN c ≠ [] := fun z => by rw [z] at fx; cases fx
            have jl := (List.getElem?_eq_some_iff.mp fx).1
            have l50 := GK.len c
            refine ⟨a, G.cA c, dx, _, rfl, h1, GK.cls c ne, GK.noat c j x fx, by rw [List.length_zip]; omega, ?_⟩
            by_cases c1 : j < ds.length
            · rw [if_pos c1] at q3
              rw [zip_put_set (GK.nd c) fx (by rw [r.length]; exact c1)]
              exact q3 ι2 M2 _ σ ⟨Pre.refl _, Ext.rfl', S2.write h ⟨dx, vs.set j v, upd_same, by simpa using le, r.set j rv2⟩⟩ R2
            · rw [if_neg c1] at q3
              by_cases c2 : j = ds.length
              · rw [if_pos c2] at q3
                have el : vs.length = j := by rw [r.length, c2]
                rw [zip_put_new (GK.nd c) (by rw [el]; exact fx)]
                exact q3 ι2 M2 _ σ ⟨Pre.refl _, Ext.rfl', S2.write h ⟨dx, vs ++ [v], upd_same, by simp; omega, r.append (.cons rv2 .nil)⟩⟩ R2
              · rw [if_neg c2] at q3
                exact q3.elim
        | _ => exact q3.elim
    | _ => exact q2.elim⟩
end

/-! ### what a def promises -/
/-- the def's body as a function on data -/
@[reducible] def fnR (n np : Nat) (S : FS) : List D → PM D := fun ds μ => if ds.length = np then (match S (ds.map some ++ List.replicate (n - ds.length) none) μ with
  | .ret d m => .ok d m
  | .nx _ m => .ok .non m
  | .exc c fs _ m => .exc c fs m
  | _ => .stuck) else .stuck
def sp3 (K : PySem.W.Frag) (G : Gx) (n : Nat) (F : List D → PM D) : Sp := fun vs H Q E => vs.length = n ∧ ∃ ι M μ ds, Sto K G ι M H μ ∧ Reps K G ι M vs ds ∧
  Fin3 K G (fun c d _ H => E c d H) [] ι M (F ds μ) (fun ι' M' H' _ d => ∀ v, Rep K G ι' M' v d → Q v H')
abbrev WE0 (E : XK) : WX := fun c d _ H => E c d H
section
variable {P : Program} {w : World} {K : PySem.W.Frag} {mg : Str → Option Value} {base : Heap} {G : Gx}
theorem sp3_imp {n : Nat} {F F' : List D → PM D} (h : ∀ ι M H μ ds vs (Q : VK) (E : XK), Sto K G ι M H μ → Reps K G ι M vs ds → Fin3 K G (WE0 E) [] ι M (F' ds μ) (fun ι' M' H' _ d => ∀ v, Rep K G ι' M' v d → Q v H') → Fin3 K G (WE0 E) [] ι M (F ds μ) (fun ι' M' H' _ d => ∀ v, Rep K G ι' M' v d → Q v H')) :
    ∀ vs H Q E, sp3 K G n F' vs H Q E → sp3 K G n F vs H Q E := fun vs H Q E ⟨l, ι, M, μ, ds, S, R, f⟩ => ⟨l, ι, M, μ, ds, S, R, h ι M H μ ds vs Q E S R f⟩
theorem fn3_of {x qual : Str} {params : Arguments} {body : List Stmt} {scope : Scope} {dvs : List V} {kws : List (Str × V)} {f : Addr} {fd : FuncData} {N ps : List Str} {k : Nat} {Sf : FS}
    (F : FunD K x qual params body scope dvs kws f fd) (S : FnScope N ps scope)
    (B : ∀ (cdv : Value) (A : Around) (outer : List Env) (s : Shared) (H : Hp) (E : XK), Room k (A.deeper (envOfC qual scope s.heap.objs.size f cdv)) → B3 (cxOf (L2.CX P w) P w K mg base N qual scope f cdv A outer s H E) G (WE0 E) body Sf) :
    FnOk P w K mg base (L2.CX P w) (k + 1) f fd ps (sp3 K G ps.length (fnR N.length ps.length Sf)) := by
  refine F.ok S (fun vs H Q E h => h.1) fun cdv A outer s H vs Q E hr h => ⟨_, B cdv A outer s H E hr, ?_⟩
  obtain ⟨l, ι, M, μ, ds, So, R, f⟩ := h
  have le : ds.length = ps.length := by rw [← R.length]; exact l
  have f2 : Fin3 K G (WE0 E) [] ι M (match Sf (ds.map some ++ List.replicate (N.length - ds.length) none) μ with
    | .ret d m => .ok d m
    | .nx _ m => .ok .non m
    | .exc c fs _ m => .exc c fs m
    | _ => .stuck) (fun ι' M' H' _ d => ∀ v, Rep K G ι' M' v d → Q v H') := by
    unfold fnR at f
    rw [if_pos le] at f
    exact f
  refine ⟨ι, M, _, μ, So, REnv.start R, ?_⟩
  cases e : Sf (ds.map some ++ List.replicate (N.length - ds.length) none) μ with
  | nx δ m => rw [e] at f2; exact fun i2 m2 h2 s2 n _ => f2 i2 m2 h2 n .non .non
  | ret d m => rw [e] at f2; exact fun i2 m2 h2 v n r => f2 i2 m2 h2 n v r
  | brk δ m => rw [e] at f2; exact f2.elim
  | ct δ m => rw [e] at f2; exact f2.elim
  | exc c fs δ m => rw [e] at f2; exact fun i2 m2 h2 s2 dx n _ xd => f2 i2 m2 h2 dx n xd
  | stuck => rw [e] at f2; exact f2.elim
end
/-- a def of the module, its data's function F; dds: the data of the defaults that a call leaves out -/
structure GFn (P : Program) (w : World) (K : PySem.W.Frag) (mg : Str → Option Value) (base : Heap) (G : Gx) (k : Nat) (x : Str) (np : Nat) (dds : List D) (F : List D → PM D) : Prop where
  ar : ∀ ds μ, ds.length ≠ np → F ds μ = .stuck
  ex : ∃ (f : Addr) (fd : FuncData) (ps : List Str) (ds : List Value) (dvs : List V), ps.length = np ∧ FnOk P w K mg base (L2.CX P w) k f fd ps (sp3 K G np F) ∧ mg x = some (.ref f) ∧ PySem.W.keepIn K (.ref f) = true ∧ Binds K fd ps ds ∧ Vals dvs ds ∧ ∀ ι M, Reps K G ι M dvs dds
/-- a method of the class c -/
structure MFn (P : Program) (w : World) (K : PySem.W.Frag) (mg : Str → Option Value) (base : Heap) (G : Gx) (k : Nat) (c : Nat) (m : Str) (np : Nat) (dds : List D) (F : List D → PM D) : Prop where
  ar : ∀ ds μ, ds.length ≠ np → F ds μ = .stuck
  ex : ∃ (f : Addr) (fd : FuncData) (ps : List Str) (ds : List Value) (dvs : List V), ps.length = np ∧ FnOk P w K mg base (L2.CX P w) k f fd ps (sp3 K G np F) ∧ Meth K (G.cA c) m f ∧ Binds K fd ps ds ∧ Vals dvs ds ∧ ∀ ι M, Reps K G ι M dvs dds
/-- a class that is called: its __init__ -/
structure CFn (P : Program) (w : World) (K : PySem.W.Frag) (mg : Str → Option Value) (base : Heap) (G : Gx) (k : Nat) (c : Nat) (x : Str) (np : Nat) (dds : List D) (F : List D → PM D) : Prop where
  ar : ∀ ds μ, ds.length ≠ np → F ds μ = .stuck
  ex : ∃ (f : Addr) (fd : FuncData) (ps : List Str) (ds : List Value) (dvs : List V), ps.length = np ∧ FnOk P w K mg base (L2.CX P w) k f fd ps (sp3 K G np F) ∧ mg x = some (.ref (G.cA c)) ∧ Mk K (G.cA c) f ∧ Binds K fd ps ds ∧ Vals dvs ds ∧ ∀ ι M, Reps K G ι M dvs dds

/-! ### calls -/
@[reducible] def dCall (F : List D → PM D) (dds : List D) (Fa : FA) : FE := fun δ μ => (Fa δ μ).bind fun ds μ => F (ds ++ dds) μ
/-- o.m(..) for an object of the class c -/
@[reducible] def dMeth (c : Nat) (F : List D → PM D) (dds : List D) (Fo : FE) (Fa : FA) : FE := fun δ μ => (Fo δ μ).bind fun o μ => match insOf o μ with
  | some (c', _) => if c' = c then (Fa δ μ).bind fun ds μ => F (o :: (ds ++ dds)) μ else .stuck
  | none => .stuck
section
variable {X : Cx} {G : Gx} {W : WX} {k : Nat} {x m : Str} {p pos apos : Pos} {e o : Expr} {es : List Expr} {Fa : FA} {Fo : FE} {F : List D → PM D} {np : Nat} {dds : List D}
/-- the callee's wish by the caller's -/
theorem Fin3.call {K : PySem.W.Frag} {σ : L2.St} {ι : List Addr} {M : Hp} {r : Res D} {P : List Addr → Hp → Hp → Mu → D → Prop} (h : Fin3 K G W σ ι M r P) : Fin3 K G (WE0 (WE W σ)) [] ι M r P := by
  cases r with
  | ok a m => exact h
  | exc c fs m => exact h
  | stuck => exact h
theorem Fin3.ar {K : PySem.W.Frag} {σ : L2.St} {ι : List Addr} {M : Hp} {ds : List D} {μ : Mu} {P : List Addr → Hp → Hp → Mu → D → Prop} (ar : ∀ ds μ, ds.length ≠ np → F ds μ = .stuck) (h : Fin3 K G W σ ι M (F ds μ) P) : ds.length = np := by
  by_cases c : ds.length = np
  · exact c
  · rw [ar ds μ c] at h
    exact h.elim
theorem e_call (T : GFn X.prog X.w X.K X.mg X.base G k x np dds F) (hr : Room k X.A) (tk : Takes X W) (ha : A3 X G W (e :: es) Fa) (hg : Gl X x := by rfl) (hdb : (x == ("__debug__" : Str)) = false := by decide)
    (he : starEach (e :: es) X.env = (false, eval e X.env) :: starEach es X.env := by rfl) (hpl : (backTo pos (starEach es X.env)).any (·.1) = false := by rfl) :
    E3 X G W (.Call (.Name x p) (e :: es) [] pos) (dCall F dds Fa) := by
  obtain ⟨f, fd, ps, ds, dvs, hps, ok, hm, hk, hb, hd, hdd⟩ := T.ex
  refine pe_imp (pe_callSD ok hr hg hm hk hb hd (E := WE W) (fun σ => passAt tk σ) ha hdb he hpl) fun σ H Q ⟨ι, M, δ, μ, S, R, q⟩ => ⟨ι, M, δ, μ, S, R, ?_⟩
  refine (Fin3.bind q).imp fun ι1 M1 H1 μ1 as p1 x1 S1 q vs rvs => ?_
  have l1 := Fin3.ar T.ar q
  have rr := rvs.append (hdd ι1 M1)
  exact ⟨rr.length.trans l1, ι1, M1, μ1, as ++ dds, S1, rr, q.call⟩
theorem e_call0 (T : GFn X.prog X.w X.K X.mg X.base G k x np dds F) (hr : Room k X.A) (tk : Takes X W) (hg : Gl X x := by rfl) (hdb : (x == ("__debug__" : Str)) = false := by decide) :
    E3 X G W (.Call (.Name x p) [] [] pos) (dCall F dds aNil) := by
  obtain ⟨f, fd, ps, ds, dvs, hps, ok, hm, hk, hb, hd, hdd⟩ := T.ex
  refine ⟨fun pins s σ H Q I ⟨ι, M, δ, μ, S, R, q⟩ => ?_⟩
  refine wpAny_Call_Name_kw (ld_glob I hg hm ?_ hdb)
  have l1 := Fin3.ar (ds := [] ++ dds) T.ar q
  exact PySem.W.callWith_K0 I.kIn hk (run_fnSD (us := []) (E := WE W) ok hr hb hd (passAt tk σ) I .nil ⟨(hdd ι M).length.trans l1, ι, M, μ, [] ++ dds, S, hdd _ _, q.call⟩)
theorem E3.go {e : Expr} {Fe : FE} (he : E3 X G W e Fe) {pins : List (Addr × Obj)} {s : Shared} {σ : L2.St} {H : Hp} {ι : List Addr} {M : Hp} {δ : Env3} {μ : Mu} {P : List Addr → Hp → Hp → Mu → D → Prop} {Q : Value → Shared → Prop} (I : Inv X pins σ H s) (S : Sto X.K G ι M H μ) (R : REnv X.K G ι M σ δ)
    (f : Fin3 X.K G W σ ι M (Fe δ μ) P) (k : ∀ u s' v ι' M' H' μ' d, Inv X pins σ H' s' → RelV v u → Pre ι ι' → Ex M M' → Sto X.K G ι' M' H' μ' → REnv X.K G ι' M' σ δ → Rep X.K G ι' M' v d → P ι' M' H' μ' d → Q u s') :
    wpAny (model X.prog X.w) X.A (eval e X.env) Q X.xe s :=
  thn (he.run pins s σ H (fun v H' => ∃ ι' M' μ' d, Pre ι ι' ∧ Ex M M' ∧ Sto X.K G ι' M' H' μ' ∧ Rep X.K G ι' M' v d ∧ P ι' M' H' μ' d) I ⟨ι, M, δ, μ, S, R, f.imp fun ι1 M1 H1 μ1 d p1 x1 S1 q v rv => ⟨ι1, M1, μ1, d, p1, x1, S1, rv, q⟩⟩)
    fun u s' ⟨v, H', I', rx, ι', M', μ', d, p, x, S', rv, q⟩ => k u s' v ι' M' H' μ' d I' rx p x S' (R.mono p x) rv q
theorem A3.go {es : List Expr} {Fa : FA} (ha : A3 X G W es Fa) {pos : Pos} {pins : List (Addr × Obj)} {s : Shared} {σ : L2.St} {H : Hp} {ι : List Addr} {M : Hp} {δ : Env3} {μ : Mu} {P : List Addr → Hp → Hp → Mu → List D → Prop} {Q : List Value → Shared → Prop} (I : Inv X pins σ H s) (S : Sto X.K G ι M H μ) (R : REnv X.K G ι M σ δ)
    (f : Fin3 X.K G W σ ι M (Fa δ μ) P) (k : ∀ us s' vs ι' M' H' μ' ds, Inv X pins σ H' s' → Vals vs us → Pre ι ι' → Ex M M' → Sto X.K G ι' M' H' μ' → REnv X.K G ι' M' σ δ → Reps X.K G ι' M' vs ds → P ι' M' H' μ' ds → Q us s') :
    wpAny (model X.prog X.w) X.A (spliced (backTo pos (starEach es X.env))) Q X.xe s :=
  thn (ha.run pos pins s σ H (fun vs H' => ∃ ι' M' μ' ds, Pre ι ι' ∧ Ex M M' ∧ Sto X.K G ι' M' H' μ' ∧ Reps X.K G ι' M' vs ds ∧ P ι' M' H' μ' ds) I ⟨ι, M, δ, μ, S, R, f.imp fun ι1 M1 H1 μ1 d p1 x1 S1 q v rv => ⟨ι1, M1, μ1, d, p1, x1, S1, rv, q⟩⟩)
    fun us s' ⟨vs, H', I', rx, ι', M', μ', ds, p, x, S', rv, q⟩ => k us s' vs ι' M' H' μ' ds I' rx p x S' (R.mono p x) rv q
theorem no_lookup {m : Str} : ∀ (N : List Str) (vs : List V), m ∉ N → (N.zip vs).lookup m = none
  | [], _, _ => rfl
  | n :: N, [], _ => rfl
  | n :: N, w :: vs, hn => by
    have h1 : m ≠ n := fun z => hn (by rw [z]; exact List.mem_cons_self ..)
    have h2 : (m == n) = false := by simpa using h1
    show List.lookup m ((n, w) :: N.zip vs) = none
    simp only [List.lookup, h2]
    exact no_lookup N vs fun z => hn (List.mem_cons_of_mem _ z)
/-- the right object, of the class c -/
theorem fin_cls {K : PySem.W.Frag} {σ : L2.St} {ι : List Addr} {M : Hp} {α : Type} {c : Nat} {d : D} {μ : Mu} {r : Res α} {P : List Addr → Hp → Hp → Mu → α → Prop} (q : Fin3 K G W σ ι M (match insOf d μ with
  | some (c', _) => if c' = c then r else .stuck
  | none => .stuck) P) : ∃ fs, insOf d μ = some (c, fs) ∧ Fin3 K G W σ ι M r P := by
  cases e1 : insOf d μ with
  | none => rw [e1] at q; exact q.elim
  | some pr =>
    obtain ⟨c', fs⟩ := pr
    rw [e1] at q
    dsimp only at q
    by_cases ec : c' = c
    · rw [if_pos ec] at q
      subst ec
      exact ⟨fs, rfl, q⟩
    · rw [if_neg ec] at q
      exact q.elim
/-- o.m(e, ..) -/
theorem e_meth {c : Nat} {pl : Sem Bool} (T : MFn X.prog X.w X.K X.mg X.base G k c m np dds F) (hc : Cls X.K (G.cA c)) (hm : m ∉ G.fN c) (hr : Room k X.A) (tk : Takes X W) (ho : E3 X G W o Fo) (ha : A3 X G W (e :: es) Fa)
    (hst : starEach (e :: es) X.env = (false, eval e X.env) :: starEach es X.env := by rfl) (hpl : (backTo pos (starEach es X.env)).any (·.1) = false := by rfl)
    (ht : eval (.Call (.Attribute o m apos) (e :: es) [] pos) X.env = (do
      let ov ← eval o X.env
      standAt apos.atName
      let (f, first) ← holding [ov] (getMethod ov m pl)
      callWith pos f first (backTo pos (starEach (e :: es) X.env)) (backToKw pos (keywordEach [] X.env))) := by rfl) :
    E3 X G W (.Call (.Attribute o m apos) (e :: es) [] pos) (dMeth c F dds Fo Fa) := by
  obtain ⟨f, fd, ps, ds, dvs, hps, ok, mt, hb, hd, hdd⟩ := T.ex
  refine ⟨fun pins s σ H Q I ⟨ι, M, δ, μ, S, R, q⟩ => ?_⟩
  refine PySem.W.methodCall_KW (pl := pl) (ho.go I S R (Fin3.bind q) fun u s1 v ι1 M1 H1 μ1 d I1 rx p1 x1 S1 R1 rv q => ?_) ht
  obtain ⟨fs, e1, q⟩ := fin_cls q
  obtain ⟨a, dx, vs, rfl, h, _, r⟩ := S1.ins e1 rv
  obtain rfl : u = Value.ref a := rx
  refine getmeth_ok I1 h hc mt (no_lookup _ _ hm) ?_
  refine PySem.W.callWith_K (first := [.ref a]) (h₀ := X.base) I.ok.mod.kin mt.kp (ha.go I1 S1 R1 (Fin3.bind q) fun us s2 ws ι2 M2 H2 μ2 as I2 rr p2 x2 S2 R2 rws q2 => ⟨I2.kIn, ?_⟩) hst hpl
  have l1 := Fin3.ar T.ar q2
  have rall : Reps X.K G ι2 M2 ((.ref a :: ws) ++ dvs) (d :: (as ++ dds)) := .cons (rv.mono p2 x2) (rws.append (hdd _ _))
  exact run_fnSD (us := .ref a :: us) (vs := .ref a :: ws) (E := WE W) ok hr hb hd (passAt tk σ) I2 (.cons rfl rr) ⟨rall.length.trans l1, ι2, M2, μ2, _, S2, rall, q2.call⟩
/-- o.m() -/
theorem e_meth0 {c : Nat} {pl : Sem Bool} (T : MFn X.prog X.w X.K X.mg X.base G k c m np dds F) (hc : Cls X.K (G.cA c)) (hm : m ∉ G.fN c) (hr : Room k X.A) (tk : Takes X W) (ho : E3 X G W o Fo)
    (ht : eval (.Call (.Attribute o m apos) [] [] pos) X.env = (do
      let ov ← eval o X.env
      standAt apos.atName
      let (f, first) ← holding [ov] (getMethod ov m pl)
      callWith pos f first (backTo pos (starEach [] X.env)) (backToKw pos (keywordEach [] X.env))) := by rfl) :
    E3 X G W (.Call (.Attribute o m apos) [] [] pos) (dMeth c F dds Fo aNil) := by
  obtain ⟨f, fd, ps, ds, dvs, hps, ok, mt, hb, hd, hdd⟩ := T.ex
  refine ⟨fun pins s σ H Q I ⟨ι, M, δ, μ, S, R, q⟩ => ?_⟩
  refine PySem.W.methodCall_KW (pl := pl) (ho.go I S R (Fin3.bind q) fun u s1 v ι1 M1 H1 μ1 d I1 rx p1 x1 S1 R1 rv q => ?_) ht
  obtain ⟨fs, e1, q⟩ := fin_cls q
  obtain ⟨a, dx, vs, rfl, h, _, r⟩ := S1.ins e1 rv
  obtain rfl : u = Value.ref a := rx
  refine getmeth_ok I1 h hc mt (no_lookup _ _ hm) ?_
  have l1 := Fin3.ar (ds := d :: ([] ++ dds)) T.ar q
  have rall : Reps X.K G ι1 M1 ([.ref a] ++ dvs) (d :: ([] ++ dds)) := .cons rv (hdd _ _)
  exact PySem.W.callWith_K0 (first := [.ref a]) I1.kIn mt.kp (run_fnSD (us := [.ref a]) (vs := [.ref a]) (E := WE W) ok hr hb hd (passAt tk σ) I1 (.cons rfl .nil) ⟨rall.length.trans l1, ι1, M1, μ1, _, S1, rall, q.call⟩)
/-- C(e, ..): a new object, then its __init__ -/
@[reducible] def dMake (c : Nat) (F : List D → PM D) (dds : List D) (Fa : FA) : FE := fun δ μ => (Fa δ μ).bind fun ds μ => (F (.cell μ.length :: (ds ++ dds)) (μ ++ [.ins c []])).bind fun r m => match r with
  | .non => .ok (.cell μ.length) m
  | _ => .stuck
theorem run_make3 {c : Nat} (T : CFn X.prog X.w X.K X.mg X.base G k c x np dds F) {pins : List (Addr × Obj)} {σ : L2.St} {H : Hp} {s : Shared} {Q : VK} {us : List Value} {vs : List V} {ι : List Addr} {M : Hp} {μ : Mu} {as : List D}
    (hr : Room (k + 1) X.A) (tk : Takes X W) (I : Inv X pins σ H s) (r : Vals vs us) (S : Sto X.K G ι M H μ) (rv : Reps X.K G ι M vs as)
    (q : Fin3 X.K G W σ ι M ((F (.cell μ.length :: (as ++ dds)) (μ ++ [.ins c []])).bind fun r m => match r with
      | .non => .ok (.cell μ.length) m
      | _ => .stuck) (fun ι' M' H' _ d => ∀ v, Rep X.K G ι' M' v d → Q v H')) :
    wpAny (model X.prog X.w) X.A (call (.ref (G.cA c)) us) (EP X pins σ Q) X.xe s := by
  obtain ⟨f, fd, ps, ds, dvs, hps, ok, hm, mk, hb, hd, hdd⟩ := T.ex
  have n1 : H (s.heap.objs.size + 1) = none := I.hok.fresh (Nat.le_succ _)
  have n2 : H s.heap.objs.size = none := I.hok.fresh (Nat.le_refl _)
  have ne : s.heap.objs.size ≠ s.heap.objs.size + 1 := Nat.ne_of_lt (Nat.lt_succ_self _)
  have I2 := Inv.made (C := G.cA c) I
  have S2 : Sto X.K G (ι ++ [s.heap.objs.size + 1]) M (upd (upd H s.heap.objs.size (.own (s.heap.objs.size + 1))) (s.heap.objs.size + 1) (.ins (G.cA c) s.heap.objs.size [])) (μ ++ [.ins c []]) := by
    refine (S.grown (Ext.upd n2)).cell (by rw [upd_ne (Ne.symm ne)]; exact n1) ⟨s.heap.objs.size, [], ?_, Nat.zero_le _, .nil⟩
    rw [upd_same]
    cases G.fN c <;> rfl
  have rall : Reps X.K G (ι ++ [s.heap.objs.size + 1]) M (V.ref (s.heap.objs.size + 1) :: (vs ++ dvs)) (.cell μ.length :: (as ++ dds)) :=
    .cons (.cell (by rw [← S.len, List.getElem?_append_right (Nat.le_refl _)]; simp)) ((rv.mono (Pre.app _ _) Ext.rfl').append (hdd _ _))
  have q2 := Fin3.mono (Pre.app ι [s.heap.objs.size + 1]) (M' := M) Ext.rfl' (Fin3.bind q)
  have l1 := Fin3.ar (ds := .cell μ.length :: (as ++ dds)) T.ar q2
  have r2 : Vals (V.ref (s.heap.objs.size + 1) :: (vs ++ dvs)) (Value.ref (s.heap.objs.size + 1) :: (us ++ ds)) := .cons rfl (r.append hd)
  have hsp : sp3 X.K G np F (V.ref (s.heap.objs.size + 1) :: (vs ++ dvs)) (upd (upd H s.heap.objs.size (.own (s.heap.objs.size + 1))) (s.heap.objs.size + 1) (.ins (G.cA c) s.heap.objs.size [])) (fun v H2 => v = .non ∧ Q (.ref (s.heap.objs.size + 1)) H2) (WE W σ) :=
    ⟨rall.length.trans l1, _, M, _, _, S2, rall, Fin3.imp q2.call fun ι' M' H' μ' d p' x' S' q v rv => by
      cases d with
      | non => exact ⟨rep_non rv, q ι' M' H' (Nx.refl S') _ (.cell (p' _ _ (by rw [← S.len, List.getElem?_append_right (Nat.le_refl _)]; simp)))⟩
      | _ => exact q.elim⟩
  have hl : (Value.ref (s.heap.objs.size + 1) :: us ++ ds).length = ps.length := by
    have e := r2.length
    rw [ok.len _ _ _ _ hsp] at e
    exact e.symm
  refine wpAny_call (make_map (f := f) I.kIn mk.makes mk.init (beq_iff_eq.mp mk.fn) (codeAny_mono (ok.run _ X.stack _ _ ⟨Value.ref (s.heap.objs.size + 1) :: us, []⟩ (Value.ref (s.heap.objs.size + 1) :: (us ++ ds)) _ _ (WE W σ) (hr.make (G.cA c) us [])
    (I2.env0.make (G.cA c) us []) (hb _ (Value.ref (s.heap.objs.size + 1) :: us) I2.kIn hl) r2 hsp) fun r s' hq' => ?_))
  cases r with
  | error e => exact passAt tk σ pins _ _ e s' I2 hq'
  | ok fl =>
    cases fl with
    | ret u =>
      obtain ⟨v, H', I3, rv, ev, q3⟩ := I2.after hq'
      subst ev
      exact ⟨rv, ⟨V.ref (s.heap.objs.size + 1), H', I3, rfl, q3⟩⟩
    | next => exact False.elim hq'
    | brk => exact False.elim hq'
    | cont => exact False.elim hq'
theorem e_make {c : Nat} (T : CFn X.prog X.w X.K X.mg X.base G k c x np dds F) (hr : Room (k + 1) X.A) (tk : Takes X W) (ha : A3 X G W (e :: es) Fa) (hg : Gl X x := by rfl) (hdb : (x == ("__debug__" : Str)) = false := by decide)
    (he : starEach (e :: es) X.env = (false, eval e X.env) :: starEach es X.env := by rfl) (hpl : (backTo pos (starEach es X.env)).any (·.1) = false := by rfl) :
    E3 X G W (.Call (.Name x p) (e :: es) [] pos) (dMake c F dds Fa) := by
  obtain ⟨f, fd, ps, ds, dvs, hps, ok, hm, mk, hb, hd, hdd⟩ := id T.ex
  refine ⟨fun pins s σ H Q I ⟨ι, M, δ, μ, S, R, q⟩ => ?_⟩
  refine wpAny_Call_Name_kw (ld_glob I hg hm ?_ hdb)
  refine PySem.W.callWith_K (h₀ := X.base) I.ok.mod.kin mk.kp (ha.go I S R (Fin3.bind q) fun us s2 ws ι2 M2 H2 μ2 as I2 rr p2 x2 S2 R2 rws q2 => ⟨I2.kIn, ?_⟩) he hpl
  exact run_make3 T hr tk I2 rr S2 rws q2
end
end L3

set_option maxRecDepth 100000
set_option maxHeartbeats 2000000
namespace L3
open PySem PySem.Spec PyProof.Rows L2

/-! ### freezing what was made -/
mutual
def D.low (n : Nat) : D → Bool
  | .tup xs => D.lows n xs
  | .lst xs => D.lows n xs
  | .klst xs => D.lows n xs
  | .ins _ vs => D.lows n vs
  | .cell i => decide (i < n)
  | _ => true
def D.lows (n : Nat) : List D → Bool
  | [] => true
  | d :: ds => D.low n d && D.lows n ds
end
def Cel.below (n : Nat) : Cel → Bool
  | .lst ds => D.lows n ds
  | .ins _ ds => D.lows n ds
  | .dct kds => D.lows n (kds.map (·.2))
section
variable {K : PySem.W.Frag} {G : Gx} {ι ι' : List Addr} {M M' H H' : Hp}
mutual
theorem Rep.bel : ∀ {v : V} {d : D}, Rep K G ι M v d → D.low ι.length d = true
  | _, _, .non => by simp only [D.low]
  | _, _, .bl => by simp only [D.low]
  | _, _, .int => by simp only [D.low]
  | _, _, .str => by simp only [D.low]
  | _, _, .ty => by simp only [D.low]
  | _, _, .fn => by simp only [D.low]
  | _, _, .tup _ r => by simp only [D.low]; exact Reps.bel r
  | _, _, .lst _ r => by simp only [D.low]; exact Reps.bel r
  | _, _, .klst _ r => by simp only [D.low]; exact Reps.bel r
  | _, _, .ins _ _ r => by simp only [D.low]; exact Reps.bel r
  | _, _, .cell h => by simp only [D.low]; exact decide_eq_true (List.getElem?_eq_some_iff.mp h).1
theorem Reps.bel : ∀ {vs : List V} {ds : List D}, Reps K G ι M vs ds → D.lows ι.length ds = true
  | _, _, .nil => by simp only [D.lows]
  | _, _, .cons h r => by simp only [D.lows, Bool.and_eq_true]; exact ⟨Rep.bel h, Reps.bel r⟩
end
mutual
theorem Rep.res {n : Nat} (p : ∀ (i : Nat) (a : Addr), i < n → ι'[i]? = some a → ι[i]? = some a) (x : Ex M' M) : ∀ {v : V} {d : D}, Rep K G ι' M' v d → D.low n d = true → Rep K G ι M v d
  | _, _, .non, _ => .non
  | _, _, .bl, _ => .bl
  | _, _, .int, _ => .int
  | _, _, .str, _ => .str
  | _, _, .ty, _ => .ty
  | _, _, .fn, _ => .fn
  | _, _, .tup h r, b => .tup (h.ext x) (Reps.res p x r (by simpa only [D.low] using b))
  | _, _, .lst h r, b => .lst (x _ _ h) (Reps.res p x r (by simpa only [D.low] using b))
  | _, _, .klst h r, b => .klst (h.ext x) (Reps.res p x r (by simpa only [D.low] using b))
  | _, _, .ins h l r, b => .ins (x _ _ h) l (Reps.res p x r (by simpa only [D.low] using b))
  | _, _, .cell h, b => .cell (p _ _ (of_decide_eq_true (by simpa only [D.low] using b)) h)
theorem Reps.res {n : Nat} (p : ∀ (i : Nat) (a : Addr), i < n → ι'[i]? = some a → ι[i]? = some a) (x : Ex M' M) : ∀ {vs : List V} {ds : List D}, Reps K G ι' M' vs ds → D.lows n ds = true → Reps K G ι M vs ds
  | _, _, .nil, _ => .nil
  | _, _, .cons h r, b => by
    simp only [D.lows, Bool.and_eq_true] at b
    exact .cons (Rep.res p x h b.1) (Reps.res p x r b.2)
end
def mapO {α β : Type} (f : α → Option β) : List α → Option (List β)
  | [] => some []
  | a :: r => match f a with
    | some b => (match mapO f r with
      | some bs => some (b :: bs)
      | none => none)
    | none => none
/-- cells from n on turned into what they hold -/
def fzD (n : Nat) (m : Mu) : Nat → D → Option D
  | 0, d => if d.low n = true then some d else none
  | k + 1, d => if d.low n = true then some d else match d with
    | .cell i => (match m[i]? with
      | some (.lst ds) => (mapO (fzD n m k) ds).map .lst
      | some (.ins c ds) => (mapO (fzD n m k) ds).map (.ins c)
      | _ => none)
    | .tup ds => (mapO (fzD n m k) ds).map .tup
    | .lst ds => (mapO (fzD n m k) ds).map .lst
    | .ins c ds => (mapO (fzD n m k) ds).map (.ins c)
    | _ => none
open Classical in
noncomputable def closeFz (μ0 : Mu) (d : D) (m : Mu) : Res D :=
  if (∃ j, m = μ0 ++ j) ∨ (μ0.length ≤ m.length ∧ (m.take μ0.length).all (Cel.below μ0.length) = true) then (match fzD μ0.length m 30 d with
    | some d' => .ok d' (m.take μ0.length)
    | none => .stuck) else .stuck
theorem closeFz_app {μ0 j : Mu} {d d' : D} (h : fzD μ0.length (μ0 ++ j) 30 d = some d') : closeFz μ0 d (μ0 ++ j) = .ok d' μ0 := by
  unfold closeFz
  rw [if_pos (.inl ⟨j, rfl⟩), h]
  simp
theorem closeFz_keep {μ0 : Mu} {d : D} (h : D.low μ0.length d = true) : closeFz μ0 d μ0 = .ok d μ0 := by
  have e := closeFz_app (μ0 := μ0) (j := []) (d := d) (d' := d) (by simp [fzD, h])
  rw [List.append_nil] at e
  exact e
theorem mapO_reps {f : D → Option D} {xs : List V} (h : ∀ v d d', Rep K G ι' M' v d → f d = some d' → Rep K G ι M v d') : ∀ {vs : List V} {ds ds' : List D}, Reps K G ι' M' vs ds → mapO f ds = some ds' → Reps K G ι M vs ds'
  | _, _, _, .nil, e => by cases e; exact .nil
  | _, d :: ds, ds', .cons a r, e => by
    unfold mapO at e
    cases q : f d with
    | none => rw [q] at e; cases e
    | some b =>
      rw [q] at e
      dsimp only at e
      cases q2 : mapO f ds with
      | none => rw [q2] at e; cases e
      | some bs =>
        rw [q2] at e
        cases e
        exact .cons (h _ _ _ a q) (mapO_reps (xs := xs) h r q2)
/-- THE FREEZE: what stands from n on becomes part of what never changes -/
theorem freeze {μ0 m : Mu} {d d' : D} {m' : Mu} (S0 : Sto K G ι M H μ0) (p : Pre ι ι') (x : Ex M M') (S : Sto K G ι' M' H' m) (e : closeFz μ0 d m = .ok d' m') : ∃ M2, Ex M' M2 ∧ Sto K G ι M2 H' m' ∧ ∀ v, Rep K G ι' M' v d → Rep K G ι M2 v d' := by
  unfold closeFz at e
  split at e
  · rename_i hc
    have lz : μ0.length ≤ m.length ∧ (m.take μ0.length).all (Cel.below μ0.length) = true := by
      rcases hc with ⟨j, rfl⟩ | h
      · refine ⟨by simp, ?_⟩
        rw [List.take_left', List.all_eq_true]
        · intro c hm
          obtain ⟨i, hi, ei⟩ := List.mem_iff_getElem.mp hm
          have hi' : i < ι.length := by rw [S0.len]; exact hi
          obtain ⟨_, k⟩ := S0.at_ i ι[i] c (List.getElem?_eq_getElem hi') (by rw [List.getElem?_eq_getElem hi, ei])
          cases c with
          | lst ds => obtain ⟨xs, _, r⟩ := k; show D.lows _ ds = true; rw [← S0.len]; exact r.bel
          | ins c ds => obtain ⟨dx, vs, _, _, r⟩ := k; show D.lows _ ds = true; rw [← S0.len]; exact r.bel
          | dct kds => obtain ⟨us, _, _, r⟩ := k; show D.lows _ _ = true; rw [← S0.len]; exact r.bel
        · rfl
      · exact h
    obtain ⟨lz, ab⟩ := lz
    have nlen : ι.length = μ0.length := S0.len
    cases q : fzD μ0.length m 30 d with
    | none => rw [q] at e; cases e
    | some d2 =>
      rw [q] at e
      cases e
      have hdrop : ∀ a, a ∈ ι'.drop μ0.length → M' a = none := fun a ha => by
        obtain ⟨i, hi, ei⟩ := List.mem_iff_getElem.mp ha
        rw [List.getElem_drop] at ei
        have l : μ0.length + i < ι'.length := by rw [List.length_drop] at hi; omega
        obtain ⟨_, _, h, _⟩ := S.at (i := μ0.length + i) (a := a) (by rw [List.getElem?_eq_getElem l, ei])
        exact h
      let M2 : Hp := fun a => if a ∈ ι'.drop μ0.length then H' a else M' a
      have x2 : Ex M' M2 := fun a o ha => by
        show (if a ∈ ι'.drop μ0.length then H' a else M' a) = some o
        rw [if_neg (fun z => by rw [hdrop a z] at ha; cases ha)]
        exact ha
      have pr : ∀ (i : Nat) (a : Addr), i < μ0.length → ι'[i]? = some a → ι[i]? = some a := fun i a l h => by
        rw [← p.take, List.getElem?_take, if_pos (by omega)]
        exact h
      have notd : ∀ (i : Nat) (a : Addr), i < μ0.length → ι'[i]? = some a → a ∉ ι'.drop μ0.length := fun i a l h z => by
        obtain ⟨j, hj, ej⟩ := List.mem_iff_getElem.mp z
        rw [List.getElem_drop] at ej
        have l2 : μ0.length + j < ι'.length := by rw [List.length_drop] at hj; omega
        have := S.nd i (μ0.length + j) a h (by rw [List.getElem?_eq_getElem l2, ej])
        omega
      have rb : ∀ {vs : List V} {ds : List D}, Reps K G ι' M' vs ds → D.lows μ0.length ds = true → Reps K G ι M2 vs ds := fun r b => r.res pr x2 b
      refine ⟨M2, x2, ⟨fun a o ha => ?_, by rw [List.length_take]; omega, S0.nd, fun i a c h1 h2 => ?_⟩, ?_⟩
      · have ha' : (if a ∈ ι'.drop μ0.length then H' a else M' a) = some o := ha
        split at ha'
        · exact ha'
        · exact S.fz a o ha'
      · have il := (List.getElem?_eq_some_iff.mp h1).1
        have i1 := p i a h1
        rw [List.getElem?_take, if_pos (by omega)] at h2
        obtain ⟨g1, g2⟩ := S.at_ i a c i1 h2
        have cb : Cel.below μ0.length c = true := List.all_eq_true.mp ab c (List.mem_of_getElem? (i := i) (by rw [List.getElem?_take, if_pos (by omega)]; exact h2))
        refine ⟨?_, ?_⟩
        · show (if a ∈ ι'.drop μ0.length then H' a else M' a) = none
          rw [if_neg (notd i a (by omega) i1)]
          exact g1
        · cases c with
          | lst ds => obtain ⟨xs, k, r⟩ := g2; exact ⟨xs, k, rb r cb⟩
          | ins c ds => obtain ⟨dx, vs, k, l, r⟩ := g2; exact ⟨dx, vs, k, l, rb r cb⟩
          | dct kds => obtain ⟨us, k, k2, r⟩ := g2; exact ⟨us, k, k2, rb r cb⟩
      · have main : ∀ (k : Nat) (v : V) (d d' : D), Rep K G ι' M' v d → fzD μ0.length m k d = some d' → Rep K G ι M2 v d' := by
          intro k
          induction k with
          | zero =>
            intro v d d' r e
            unfold fzD at e
            by_cases b : d.low μ0.length = true
            · rw [if_pos b] at e; cases e; exact r.res pr x2 b
            · rw [if_neg b] at e; cases e
          | succ k ih =>
            intro v d d' r e
            unfold fzD at e
            by_cases b : d.low μ0.length = true
            · rw [if_pos b] at e; cases e; exact r.res pr x2 b
            · rw [if_neg b] at e
              cases r with
              | cell h =>
                rename_i a i
                dsimp only at e
                have ni : ¬ i < μ0.length := fun z => b (by simp only [D.low]; exact decide_eq_true z)
                have il := (List.getElem?_eq_some_iff.mp h).1
                have md : a ∈ ι'.drop μ0.length := by
                  refine List.mem_iff_getElem?.mpr ⟨i - μ0.length, ?_⟩
                  rw [List.getElem?_drop]
                  have e2 : μ0.length + (i - μ0.length) = i := by omega
                  rw [e2]
                  exact h
                have hM2 : M2 a = H' a := if_pos md
                cases q0 : m[i]? with
                | none => rw [q0] at e; cases e
                | some c =>
                  rw [q0] at e
                  obtain ⟨_, ck⟩ := S.at_ i a c h q0
                  cases c with
                  | lst ds =>
                    dsimp only at e
                    obtain ⟨xs, k1, rr⟩ := ck
                    cases q1 : mapO (fzD μ0.length m k) ds with
                    | none => rw [q1] at e; cases e
                    | some ds' =>
                      rw [q1] at e
                      cases e
                      exact .lst (hM2.trans k1) (mapO_reps (xs := xs) (fun v d d' => ih v d d') rr q1)
                  | ins c ds =>
                    dsimp only at e
                    obtain ⟨dx, vs, k1, l, rr⟩ := ck
                    cases q1 : mapO (fzD μ0.length m k) ds with
                    | none => rw [q1] at e; cases e
                    | some ds' =>
                      rw [q1] at e
                      cases e
                      exact .ins (hM2.trans k1) l (mapO_reps (xs := vs) (fun v d d' => ih v d d') rr q1)
                  | dct kds => cases e
              | tup h rr =>
                rename_i a xs ds
                dsimp only at e
                cases q1 : mapO (fzD μ0.length m k) ds with
                | none => rw [q1] at e; cases e
                | some ds' =>
                  rw [q1] at e
                  cases e
                  exact .tup (h.ext x2) (mapO_reps (xs := xs) (fun v d d' => ih v d d') rr q1)
              | lst h rr =>
                rename_i a xs ds
                dsimp only at e
                cases q1 : mapO (fzD μ0.length m k) ds with
                | none => rw [q1] at e; cases e
                | some ds' =>
                  rw [q1] at e
                  cases e
                  exact .lst (x2 _ _ h) (mapO_reps (xs := xs) (fun v d d' => ih v d d') rr q1)
              | ins h l rr =>
                rename_i a c dx vs ds
                dsimp only at e
                cases q1 : mapO (fzD μ0.length m k) ds with
                | none => rw [q1] at e; cases e
                | some ds' =>
                  rw [q1] at e
                  cases e
                  exact .ins (x2 _ _ h) l (mapO_reps (xs := vs) (fun v d d' => ih v d d') rr q1)
              | _ => cases e
        exact fun v r => main 30 v d _ r q
  · cases e
/-- the freeze behind a result -/
theorem Fin3.close {W : WX} {σ : L2.St} {μ0 : Mu} {r : Res D} {Q : VK} (S0 : Sto K G ι M H μ0) (f : Fin3 K G W σ ι M (r.bind fun d m => closeFz μ0 d m) (fun ι' M' H' _ d => ∀ v, Rep K G ι' M' v d → Q v H')) :
    Fin3 K G W σ ι M r (fun ι' M' H' _ d => ∀ v, Rep K G ι' M' v d → Q v H') := by
  cases r with
  | ok d m =>
    intro ι2 M2 H2 n v rv
    have f' : Fin3 K G W σ ι M (closeFz μ0 d m) (fun ι' M' H' _ d => ∀ v, Rep K G ι' M' v d → Q v H') := f
    cases q : closeFz μ0 d m with
    | ok d' m' =>
      rw [q] at f'
      obtain ⟨M3, x3, S3, h3⟩ := freeze S0 n.pre n.ext n.sto q
      exact f' ι M3 H2 ⟨Pre.refl _, n.ext.trans x3, S3⟩ v (h3 v rv)
    | exc c fs m' =>
      unfold closeFz at q
      split at q
      · split at q <;> cases q
      · cases q
    | stuck => rw [q] at f'; exact f'.elim
  | exc c fs m => exact f
  | stuck => exact f
end
/-- a def's function, what it made frozen -/
noncomputable def fzF (F : List D → PM D) : List D → PM D := fun ds μ => (F ds μ).bind fun d m => closeFz μ d m
/-- a class called, the object frozen -/
noncomputable def mkF (c : Nat) (F : List D → PM D) : List D → PM D := fun ds μ => (F (.cell μ.length :: ds) (μ ++ [.ins c []])).bind fun r m => match r with
  | .non => closeFz μ (.cell μ.length) m
  | _ => .stuck
section
variable {P : Program} {w : World} {K : PySem.W.Frag} {mg : Str → Option Value} {base : Heap} {G : Gx} {k : Nat} {x : Str} {np c : Nat} {dds : List D} {F : List D → PM D} {m : Str}
theorem sp3_fz {n : Nat} : ∀ vs H Q E, sp3 K G n (fzF F) vs H Q E → sp3 K G n F vs H Q E := fun vs H Q E ⟨l, ι, M, μ, ds, S, R, f⟩ => ⟨l, ι, M, μ, ds, S, R, Fin3.close S f⟩
theorem fzF_ar (h : ∀ ds μ, ds.length ≠ np → F ds μ = .stuck) : ∀ ds μ, ds.length ≠ np → fzF F ds μ = .stuck := fun ds μ l => by
  unfold fzF
  rw [h ds μ l]
  rfl
theorem GFn.fz (T : GFn P w K mg base G k x np dds F) : GFn P w K mg base G k x np dds (fzF F) := by
  obtain ⟨f, fd, ps, ds, dvs, h1, ok, r⟩ := T.ex
  exact ⟨fzF_ar T.ar, f, fd, ps, ds, dvs, h1, ok.imp sp3_fz, r⟩
theorem MFn.fz (T : MFn P w K mg base G k c m np dds F) : MFn P w K mg base G k c m np dds (fzF F) := by
  obtain ⟨f, fd, ps, ds, dvs, h1, ok, r⟩ := T.ex
  exact ⟨fzF_ar T.ar, f, fd, ps, ds, dvs, h1, ok.imp sp3_fz, r⟩
/-- another function on data that the promise's function is at least as good as: equal where F' is not stuck -/
theorem sp3_eq {n : Nat} {F' : List D → PM D} (h : ∀ ds μ, F' ds μ = .stuck ∨ F ds μ = F' ds μ) : ∀ vs H Q E, sp3 K G n F' vs H Q E → sp3 K G n F vs H Q E := fun vs H Q E ⟨l, ι, M, μ, ds, S, R, f⟩ => ⟨l, ι, M, μ, ds, S, R, by
  rcases h ds μ with e | e
  · rw [e] at f; exact f.elim
  · rw [e]; exact f⟩
theorem GFn.by (T : GFn P w K mg base G k x np dds F) {F' : List D → PM D} (ar : ∀ ds μ, ds.length ≠ np → F' ds μ = .stuck) (h : ∀ ds μ, F' ds μ = .stuck ∨ F ds μ = F' ds μ) : GFn P w K mg base G k x np dds F' := by
  obtain ⟨f, fd, ps, ds, dvs, h1, ok, r⟩ := T.ex
  exact ⟨ar, f, fd, ps, ds, dvs, h1, ok.imp (sp3_eq h), r⟩
end
section
variable {X : Cx} {G : Gx} {W : WX} {k : Nat} {x : Str} {p pos : Pos} {e : Expr} {es : List Expr} {Fa : FA} {F : List D → PM D} {np c : Nat} {dds : List D}
theorem e_makeZ (T : CFn X.prog X.w X.K X.mg X.base G k c x np dds F) (hr : Room (k + 1) X.A) (tk : Takes X W) (ha : A3 X G W (e :: es) Fa) (hg : Gl X x := by rfl) (hdb : (x == ("__debug__" : Str)) = false := by decide)
    (he : starEach (e :: es) X.env = (false, eval e X.env) :: starEach es X.env := by rfl) (hpl : (backTo pos (starEach es X.env)).any (·.1) = false := by rfl) :
    E3 X G W (.Call (.Name x p) (e :: es) [] pos) (dCall (mkF c F) dds Fa) := by
  obtain ⟨f, fd, ps, ds, dvs, hps, ok, hm, mk, hb, hd, hdd⟩ := id T.ex
  refine ⟨fun pins s σ H Q I ⟨ι, M, δ, μ, S, R, q⟩ => ?_⟩
  refine wpAny_Call_Name_kw (ld_glob I hg hm ?_ hdb)
  refine PySem.W.callWith_K (h₀ := X.base) I.ok.mod.kin mk.kp (ha.go I S R (Fin3.bind q) fun us s2 ws ι2 M2 H2 μ2 as I2 rr p2 x2 S2 R2 rws q2 => ⟨I2.kIn, ?_⟩) he hpl
  refine run_make3 T hr tk I2 rr S2 rws (Fin3.close S2 ?_)
  have q3 : Fin3 X.K G W σ ι2 M2 (mkF c F (as ++ dds) μ2) (fun ι' M' H' _ d => ∀ v, Rep X.K G ι' M' v d → Q v H') := q2
  unfold mkF at q3
  cases e1 : F (.cell μ2.length :: (as ++ dds)) (μ2 ++ [.ins c []]) with
  | ok d m =>
    rw [e1] at q3
    cases d with
    | non => exact q3
    | _ => exact q3.elim
  | exc c fs m => rw [e1] at q3; exact q3
  | stuck => rw [e1] at q3; exact q3
/-- any expression, what it made frozen -/
theorem e_fz {Fe : FE} (h : E3 X G W e Fe) : E3 X G W e (fun δ μ => (Fe δ μ).bind fun d m => closeFz μ d m) := pe_imp h fun σ H Q ⟨ι, M, δ, μ, S, R, f⟩ => ⟨ι, M, δ, μ, S, R, Fin3.close S f⟩
end
end L3

set_option maxRecDepth 100000
set_option maxHeartbeats 2000000
namespace L3
open PySem PySem.Spec PyProof.Rows L2
section
open PySem.W
variable {prog : Program} {w : World} {M : Model} {A : Around} {E : Value → Shared → Prop} {s : Shared} {K : PySem.W.Frag} {x C L f : Addr} {h₀ : Heap} {m : Str → Option Value} {ox : Obj} {od : Option Obj} {nm T : String}

/-- a built-in value op an own instance: the built-in declines, the instance's reflected method is called -/
theorem ksp_rT {op : Operator} {a : Value} {fo ro : Option Value} {g : Addr} {Q : Value → Shared → Prop} (F : Fr h₀ L s.heap m) (X₀ : K.In h₀) (I : InstAt s.heap x ox C od) (ha : typeOf a = pure (.type T)) (hc : selfFirst K C = true)
    (hs : findIn K (.ref C) (PySem.dunder op.info.2) = some (some (.ref g))) (hr : findIn K (.ref C) (dunderR op.info.2) = some (some (.ref f))) (hf : isFn K (.ref f) = true)
    (h1 : findIn K (.type T) (PySem.dunder op.info.2) = some fo) (h2 : findIn K (.type T) (dunderR op.info.2) = some ro) (hsub : subIn K (.ref C) (.type T) = some false)
    (hl : ((fo.isSome && !isSeqSlot fo) || (ro.isSome && !isSeqSlot ro)) = true)
    (hd : ∀ {Q : Option Value → Shared → Prop}, Q none s → wpAny (model prog w) A (tryMethod a (PySem.dunder op.info.2) (.ref x)) Q E s)
    (h : wpAny (model prog w) A (call (.ref f) [.ref x, a]) (PySem.W.CmpBack Q) E s) : wpAny (model prog w) A (binaryOp op a (.ref x)) Q E s := by
  have X := X₀.keeps F.keep
  obtain ⟨cd, rest, hcd, hm⟩ := ksp_first hc
  rcases hi : op.info with ⟨sym, nm'⟩
  rw [hi] at hs hr h1 h2 hd
  dsimp only at hs hr h1 h2 hd
  have one := ksp_try X I hr hf h
  obtain ⟨hh, gg, d, tt, os⟩ := s
  have L1 : Looks (model prog w) hh (typeOf (.ref x)) (.ref C) := I.type
  have L2 : Looks (model prog w) hh (typeOf a) (.type T) := Looks.of_pure ha
  have L3 : Looks (model prog w) hh (fillsNumberSlot (.ref C) nm') true := fills_K X hcd hm hs
  have L4 : Looks (model prog w) hh (fillsNumberSlot (.type T) nm') true := hl ▸ ksp_fillsT X h1 h2
  have L5 : Looks (model prog w) hh (isSubtype (.ref C) (.type T)) false := looks_subIn X hsub
  have L7 : Looks (model prog w) hh (numberSlotInPython (.type T) nm') false := Looks.of_pure rfl
  have hne : (Value.type T == Value.ref C) = false := Bool.eq_false_iff.mpr fun q => by cases beq_iff_eq.mp q
  simp only [binaryOp, hi]
  refine wpAny_holding (wpAny_bind ?_)
  unfold binaryOp1
  refine wpAny_bind (L2.at (wpAny_bind (L1.at (wpAny_bind (L4.at ?_)))))
  simp only [hne, Bool.false_eq_true, if_false]
  ksp_lk
  refine hd ?_
  ksp_lk
  refine wpAny_mono one (fun r s' hr' => ?_) fun _ _ e => e
  obtain ⟨v, rfl, hq⟩ := hr'
  ksp_lk
  exact hq
/-- int's own method declines an instance -/
theorem int_declines {name : Str} {id : String} {B : Builtin} {i : Int} {t : Tok} {Q : Option Value → Shared → Prop} (slot : Slot "int" name id) (entry : entryFor table id = some B) (args : argsOk id ⟨[.int i t, .ref x], []⟩)
    (hB : ∀ {A : Around} {Q : Fin → Shared → Prop}, Q (.done (.ret .notImplemented)) s → wpAny (model prog w) A (B ⟨[.int i t, .ref x], []⟩) Q E s) (q : Q none s) : wpAny (model prog w) A (tryMethod (.int i t) name (.ref x)) Q E s := by
  have hc : wpAny (model prog w) A (call (.builtin id) [.int i t, .ref x]) (fun v s' => v = .notImplemented ∧ Q none s') E s :=
    wpAny_call_entry slot (typeIs_int s i t) entry (hB ⟨_, rfl, rfl, q⟩) args
  unfold tryMethod
  refine wpAny_bind (wpAny_callSpecial?_slot (typeIs_int s i t) slot (wpAny_mono hc (fun v s' h' => ?_) fun _ _ e => e))
  obtain ⟨rfl, hq⟩ := h'
  exact wpAny_pure hq
/-- int's binary methods decline -/
theorem intBinary_declines {A : Around} {nm : String} {g : Int → Int → Sem PySem.Fin} {r : Bool} {i : Int} {t : Tok} {Q : PySem.Fin → Shared → Prop} (I : InstAt s.heap x ox C od) (hd : ox.data = .plain) (q : Q (.done (.ret .notImplemented)) s) :
    wpAny (model prog w) A (Builtin.Int.intBinary nm g r ⟨[.int i t, .ref x], []⟩) Q E s := by
  simp only [Builtin.Int.intBinary, slotArgs, Builtin.Int.intOfSelf, asInt?, List.isEmpty_nil, Bool.not_true, List.length_cons, List.length_nil, Bool.false_eq_true, if_false, bne_self_eq_false, List.headD_cons, pure_bind, bind_assoc]
  refine wpAny_bind (wpAny_load I.at_ ?_)
  rw [hd]
  simp only [pure_bind]
  exact wpAny_bind (wpAny_rule (wpAny_pure q))

theorem declines_add {i : Int} {t : Tok} {Q : Option Value → Shared → Prop} (I : InstAt s.heap x ox C od) (hd : ox.data = .plain) (q : Q none s) : wpAny (model prog w) A (tryMethod (.int i t) (PySem.dunder Operator.Add.info.2) (.ref x)) Q E s :=
  int_declines (name := "__add__") (id := "int.__add__") (B := Builtin.«int.__add__») PySem.F.slot_int_add PySem.F.entry_int_add (PySem.F.args_int_add_2 _ _) (fun h => intBinary_declines (nm := "__add__") (r := false) I hd h) q
theorem declines_sub {i : Int} {t : Tok} {Q : Option Value → Shared → Prop} (I : InstAt s.heap x ox C od) (hd : ox.data = .plain) (q : Q none s) : wpAny (model prog w) A (tryMethod (.int i t) (PySem.dunder Operator.Sub.info.2) (.ref x)) Q E s :=
  int_declines (name := "__sub__") (id := "int.__sub__") (B := Builtin.«int.__sub__») PySem.F.slot_int_sub PySem.F.entry_int_sub (PySem.F.args_int_sub_2 _ _) (fun h => intBinary_declines (nm := "__sub__") (r := false) I hd h) q
theorem declines_mul {i : Int} {t : Tok} {Q : Option Value → Shared → Prop} (I : InstAt s.heap x ox C od) (hd : ox.data = .plain) (q : Q none s) : wpAny (model prog w) A (tryMethod (.int i t) (PySem.dunder Operator.Mult.info.2) (.ref x)) Q E s :=
  int_declines (name := "__mul__") (id := "int.__mul__") (B := Builtin.«int.__mul__») PySem.F.slot_int_mul PySem.F.entry_int_mul (PySem.F.args_int_mul_2 _ _) (fun h => intBinary_declines (nm := "__mul__") (r := false) I hd h) q
theorem declines_mod {i : Int} {t : Tok} {Q : Option Value → Shared → Prop} (I : InstAt s.heap x ox C od) (hd : ox.data = .plain) (q : Q none s) : wpAny (model prog w) A (tryMethod (.int i t) (PySem.dunder Operator.Mod.info.2) (.ref x)) Q E s :=
  int_declines (name := "__mod__") (id := "int.__mod__") (B := Builtin.«int.__mod__») PySem.F.slot_int_mod PySem.F.entry_int_mod (PySem.F.args_int_mod_2 _ _) (fun h => intBinary_declines (nm := "__mod__") (r := false) I hd h) q
theorem pylong_pass {A : Around} {i : Int} {t : Tok} {Q : Unit → Shared → Prop} (I : InstAt s.heap x ox C od) (hd : ox.data = .plain) (q : Q () s) : wpAny (model prog w) A (Builtin.exactOperandsForPylong false ⟨[.int i t, .ref x], []⟩) Q E s := by
  have h1 : ([Value.int i t, Value.ref x].any Value.onHeap) = true := rfl
  unfold Builtin.exactOperandsForPylong
  simp only [h1, if_true, asInt?, pure_bind, bind_assoc]
  refine wpAny_bind (wpAny_load I.at_ ?_)
  rw [hd]
  simp only [pure_bind]
  exact wpAny_pure q
theorem declines_div {i : Int} {t : Tok} {Q : Option Value → Shared → Prop} (I : InstAt s.heap x ox C od) (hd : ox.data = .plain) (q : Q none s) : wpAny (model prog w) A (tryMethod (.int i t) (PySem.dunder Operator.FloorDiv.info.2) (.ref x)) Q E s :=
  int_declines (name := "__floordiv__") (id := "int.__floordiv__") (B := Builtin.«int.__floordiv__») PySem.F.slot_int_floordiv PySem.F.entry_int_floordiv (PySem.F.args_int_floordiv_2 _ _) (fun h => wpAny_bind (pylong_pass I hd (intBinary_declines (nm := "__floordiv__") (r := false) I hd h))) q
end
end L3

set_option maxRecDepth 100000
set_option maxHeartbeats 2000000
/-! L3h: enumerate and zip. -/
namespace L3
open PySem PySem.Spec PyProof.Rows L2
/-- what enumerate makes over the iterator at n -/
abbrev enO (n : Nat) : Obj := { cls := .type "enumerate", data := .fields #[.none, .bool false, .ref n, rawInt 0, .none, .none] }
set_option maxHeartbeats 1000000 in
theorem meets_enB {v : Value} {ob : Obj} {St : Heap → Prop} (B : Begins v ob St) :
    Meets (Builtin.«enumerate.__new__» ⟨[.type "enumerate", v], []⟩) (fun _ R sh => St sh.heap ∧ R (.ok (.ret (.ref (sh.heap.push ob).objs.size))) { sh with heap := (sh.heap.push ob).push (enO sh.heap.objs.size) }) :=
  .of_wp fun prog w A R sh ⟨b1, b2⟩ => by
    obtain ⟨hp, g, d, tk, os⟩ := sh
    have hsub := sub_enumerate
    have go : ∀ {A' : Around} {E Q : Value → Shared → Prop}, Q (.ref hp.objs.size) ⟨hp.push ob, g, d, tk, os⟩ → wpAny (model prog w) A' (pyIter v) Q E ⟨hp, g, d, tk, os⟩ := fun q => B.iter prog w _ _ ⟨hp, g, d, tk, os⟩ _ b1 q
    wp_walk using go
    refine wpAny_stack_any fun _ => wpAny_pure ?_
    split
    · rename_i c _ _ _ _ _
      cases (c == Value.type "enumerate") <;> (wp_walk using go; exact ⟨_, rfl, b2⟩)
    · wp_walk using go
      exact ⟨_, rfl, b2⟩
section
variable {prog : Program} {w : World} {A : Around} {E : Value → Shared → Prop} {sh : Shared}
/-- enumerate(v): two new objects -/
theorem call_enB {v : Value} {ob : Obj} {St : Heap → Prop} {Q : Value → Shared → Prop} (B : Begins v ob St) (h1 : St sh.heap)
    (q : ∀ hp, IsEnum hp (sh.heap.objs.size + 1) sh.heap.objs.size 0 .none → hp.get? sh.heap.objs.size = some ob → (∀ b o, sh.heap.get? b = some o → hp.get? b = some o) → Q (.ref (sh.heap.objs.size + 1)) { sh with heap := hp }) :
    wpAny (model prog w) A (call (.type "enumerate") [v]) Q E sh := by
  refine callType_new F.called_enumerate (by decide) (F.typeCall_enumerate_1 _) (F.newCall_enumerate_1 _) (fun z => F.args_object_init_2 z _) F.entry_enumerate_new (meets_enB B) ⟨h1, ?_⟩
  have sz : (sh.heap.push ob).objs.size = sh.heap.objs.size + 1 := Heap.size_push ..
  show _ ∧ _
  rw [sz]
  have ie : IsEnum ((sh.heap.push ob).push (enO sh.heap.objs.size)) (sh.heap.objs.size + 1) sh.heap.objs.size 0 .none := by
    have k := Heap.get?_push_size (sh.heap.push ob) (o := enO sh.heap.objs.size) rfl
    rw [sz] at k
    exact k
  exact ⟨⟨_, ie, rfl⟩, q _ ie (Heap.get?_push_of_some _ (Heap.get?_push_size _ B.free)) fun b o x => Heap.get?_push_of_some _ (Heap.get?_push_of_some _ x)⟩
end
/-- the tuple at a, each item in a new pair with its place -/
def IteT (K : PySem.W.Frag) (a : Addr) : It :=
  ⟨fun i H => ∃ (xs : List V) (x : V), SqT K H a xs ∧ xs[i]? = some x, fun i H v H' => ∃ N x, v = .ref N ∧ H N = none ∧ H' = upd H N (.tup [.int (i : Nat), x]) ∧ ∀ xs, SqT K H a xs → xs[i]? = some x, fun i H => ∃ xs : List V, SqT K H a xs ∧ xs.length = i⟩
theorem turn_enT {P : Program} {w : World} {K : PySem.W.Frag} {elts : List Expr} {kk : Nat} {tpos : Pos} (a e it : Addr) :
    Turn P w K (.Tuple elts kk tpos) (IteT K a) [e, it] e (fun i hp => (∃ old, IsEnum hp e it ((i : Nat) : Int) old) ∧ hp.IsTupleIter it a i ∧ e ≠ it) where
  mem := List.mem_cons_self ..
  obj := fun i hp st b hb => by
    obtain ⟨⟨old, he⟩, ⟨o, ho, _, hd⟩, _⟩ := st
    rcases List.mem_cons.mp hb with z | z
    · subst z
      exact ⟨_, he, fun v q => by cases q⟩
    · exact ⟨o, (List.mem_singleton.mp z) ▸ ho, fun v q => by rw [hd] at q; cases q⟩
  keep := fun i hp hp' ⟨⟨old, he⟩, hi, ne⟩ k => ⟨⟨old, k e (List.mem_cons_self ..) _ he⟩, hi.at fun o q => k it (List.mem_cons_of_mem _ (List.mem_cons_self ..)) o q, ne⟩
  item := by
    intro X hP hw hK hc i pins s σ H E I hf ⟨⟨old, he⟩, hit, hne⟩ ⟨xs, x, hq, hx⟩
    subst hP hw hK
    obtain ⟨its, rv, p, hz⟩ := I.tuple hq
    obtain ⟨u, hu, ru⟩ := rv.get hx
    have pt : s.heap.IsTuple a its.toArray := p
    have lt : i < its.toArray.size := (Array.getElem?_eq_some_iff.mp (by simpa using hu)).1
    have hi2 : it ≠ a := fun z => by
      obtain ⟨o1, g1, c1, _⟩ := hit
      obtain ⟨o2, g2, c2, _⟩ := pt
      rw [z, g2] at g1
      cases g1
      rw [c2] at c1
      exact absurd (Value.type.inj c1) (by decide)
    have he2 : e ≠ a := fun z => by
      obtain ⟨o2, g2, c2, _⟩ := pt
      rw [z] at he
      have he := he.symm.trans g2
      cases he
      exact absurd (Value.type.inj c2) (by decide)
    have lit : it < s.heap.objs.size := by obtain ⟨_, q, _⟩ := hit; exact Heap.lt_size q
    have le : e < s.heap.objs.size := Heap.lt_size he
    refine wpAny_pyNext_enum_itemC (c := ((i : Nat) : Int)) (Draws.tuple (A := X.A.in1) (I.ok.hd hc) it a (Ne.symm hi2) its.toArray) he ⟨hit, pt⟩ lt hne (by simp [hne, he2]) fun y hp tk hy ho st hT hsz hk => ?_
    have ey : y = u := by
      have hy2 : its.toArray[i]? = some y := hy
      have : its[i]? = some y := by simpa using hy2
      rw [hu] at this
      exact (Option.some.inj this).symm
    subst ey
    refine ⟨_, rfl, wpAny_letOwnedTupleGo_enum (s := { s with heap := hp, toks := tk + 1 }) ho fun hp2 he' sb => ?_⟩
    have hT2 : hp2.get? s.heap.objs.size = some { cls := .type "tuple", data := .seq #[.int i tk, y] } := (sb.2 _ (Nat.ne_of_gt le)).trans hT
    have nw : ObjOk X.prog X.w (upd H s.heap.objs.size (.tup [.int (i : Nat), x])) hp2 s.heap.objs.size (.tup [.int (i : Nat), x]) :=
      ⟨show 2 ≤ sizeLine by decide, [.int i tk, y], .cons ⟨_, rfl⟩ (.cons ru .nil), ⟨_, hT2, rfl, _, rfl⟩⟩
    have I1 : Inv X pins σ (upd H s.heap.objs.size (.tup [.int (i : Nat), x])) { s with heap := hp2, toks := tk + 1 } :=
      I.turnedNew (ch := [e, it]) (fun b ob hb q => (sb.2 b fun z => hb (z ▸ List.mem_cons_self ..)).trans (hk b ob (fun z => hb (z ▸ List.mem_cons_self ..)) (fun z => hb (by rw [z]; simp)) q)) hf (Nat.le_refl _) nw
    refine ⟨.ref s.heap.objs.size, _, I1, rfl, ⟨_, x, rfl, I.hok.fresh (Nat.le_refl _), rfl, fun ys hy => by rw [I.tuple_inj hy hq]; exact hx⟩, ⟨⟨y, ?_⟩, st.1.at fun o q => (sb.2 it (Ne.symm hne)).trans q, hne⟩, fun b hb => ?_⟩
    · rw [show ((i + 1 : Nat) : Int) = (i : Int) + 1 by omega]
      exact he'
    · have lb : b < s.heap.objs.size := by
        rcases List.mem_cons.mp hb with z | z
        · exact z ▸ le
        · exact (List.mem_singleton.mp z) ▸ lit
      rw [upd_ne (Nat.ne_of_lt lb)]
      exact (hf b hb).1
  done := by
    intro X hP hw hK hc i pins s σ H E I hf ⟨⟨old, he⟩, hit, hne⟩ ⟨xs, hq, hx⟩
    subst hP hw hK
    obtain ⟨its, rv, p, hz⟩ := I.tuple hq
    have pt : s.heap.IsTuple a its.toArray := p
    have hi2 : it ≠ a := fun z => by
      obtain ⟨o1, g1, c1, _⟩ := hit
      obtain ⟨o2, g2, c2, _⟩ := pt
      rw [z, g2] at g1
      cases g1
      rw [c2] at c1
      exact absurd (Value.type.inj c1) (by decide)
    obtain ⟨f0, f1, f2, f3, f4, f5⟩ := hf it (by simp)
    have sz : its.toArray.size = i := by rw [List.size_toArray, ← rv.length, hx]
    subst sz
    exact wpAny_pyNext_enum_endD (Draws.tuple (A := X.A.in1) (I.ok.hd hc) it a (Ne.symm hi2) its.toArray) he ⟨hit, pt⟩ fun hp eb => ⟨rfl, I.turned (t' := s.toks) (fun b o hb q => eb b o hb q) f0 f1 f3 f4 f5⟩
  self := fun A i s Q E ⟨⟨_, he⟩, _⟩ h => wpAny_pyIter_enum he h
def iEnA (K : PySem.W.Frag) (ta : TA) : TI := fun σ H R => ta σ H fun vs H1 => ∃ a, vs = [.ref a] ∧ (((∃ xs, SqL K H1 a xs) ∧ R (Ite K a) H1) ∨ ((∃ xs, SqT K H1 a xs) ∧ R (IteT K a) H1))
theorem pi_enA {X : Cx} {x : Expr} {ta : TA} {p pos tpos : Pos} {elts : List Expr} {kk : Nat} (hg : Gl X "enumerate") (hm : X.mg "enumerate" = none) (ha : PA X [x] ta) (hs : starEach [x] X.env = [(false, eval x X.env)] := by rfl) :
    PI X (.Tuple elts kk tpos) (.Call (.Name "enumerate" p) [x] [] pos) (iEnA X.K ta) := by
  refine ⟨fun pins s σ H R I h => Call_ (ld_blt I hg hm boot_enumerate (PyProof.Rows.callWith_type1 (thn (ha.run pos pins s σ H _ I h) fun us s1 ⟨vs, H1, I1, r1, a, ev, q⟩ => ?_) hs rfl))⟩
  subst ev
  obtain ⟨u, rfl, r⟩ := vals1 r1
  cases r
  have fr : ∀ b, b ∈ [s1.heap.objs.size + 1, s1.heap.objs.size] → FpOk X pins H1 b := fun b hb => by
    have le : s1.heap.objs.size ≤ b := by
      rcases List.mem_cons.mp hb with z | z
      · rw [z]; exact Nat.le_add_right _ _
      · rw [List.mem_singleton.mp z]; exact Nat.le_refl _
    exact I1.fpOk le (I1.hok.fresh le)
  rcases q with ⟨⟨xs, hq⟩, q⟩ | ⟨⟨xs, hq⟩, q⟩
  · obtain ⟨its, _, pl, _⟩ := I1.list hq
    refine call_enB (begins_list a its.toArray) pl.isList fun hp ie gi hk => wpAny_pyIter_enum ie ?_
    exact ⟨s1.heap.objs.size + 1, _, _, _, H1, rfl, I1.kept (t' := s1.toks) hk, turn_enum a (s1.heap.objs.size + 1) s1.heap.objs.size, ⟨⟨.none, ie⟩, ⟨_, gi, rfl, rfl⟩, Nat.succ_ne_self _⟩, fr, q⟩
  · obtain ⟨its, _, pl, _⟩ := I1.tuple hq
    refine call_enB (begins_tuple a its.toArray) pl fun hp ie gi hk => wpAny_pyIter_enum ie ?_
    exact ⟨s1.heap.objs.size + 1, _, _, _, H1, rfl, I1.kept (t' := s1.toks) hk, turn_enT a (s1.heap.objs.size + 1) s1.heap.objs.size, ⟨⟨.none, ie⟩, ⟨_, gi, rfl, rfl⟩, Nat.succ_ne_self _⟩, fr, q⟩
/-! ### on data -/
def enumF : Nat → List D → List D
  | _, [] => []
  | i, d :: ds => .tup [.int i, d] :: enumF (i + 1) ds
theorem enumF_len : ∀ (ds : List D) (k : Nat), (enumF k ds).length = ds.length
  | [], _ => rfl
  | _ :: ds, k => congrArg Nat.succ (enumF_len ds (k + 1))
theorem enumF_get : ∀ (ds : List D) (k i : Nat), (enumF k ds)[i]? = ds[i]?.map fun d => D.tup [.int ((k + i : Nat) : Int), d]
  | [], _, _ => by simp [enumF]
  | d :: ds, k, 0 => by simp [enumF]
  | d :: ds, k, i + 1 => by
    rw [show (enumF k (d :: ds)) = .tup [.int k, d] :: enumF (k + 1) ds from rfl, List.getElem?_cons_succ, List.getElem?_cons_succ, enumF_get ds (k + 1) i, show k + 1 + i = k + (i + 1) by omega]
def zipF : List D → List D → List D
  | a :: as, b :: bs => .tup [a, b] :: zipF as bs
  | _, _ => []
theorem zipF_len : ∀ (as bs : List D), (zipF as bs).length = min as.length bs.length
  | [], _ => by simp [zipF]
  | _ :: _, [] => by simp [zipF]
  | _ :: as, _ :: bs => by
    show (zipF as bs).length + 1 = _
    rw [zipF_len as bs]
    simp
theorem zipF_get : ∀ (as bs : List D) (i : Nat) (d : D), (zipF as bs)[i]? = some d → ∃ a b, as[i]? = some a ∧ bs[i]? = some b ∧ d = .tup [a, b]
  | [], _, _, _, h => by simp [zipF] at h
  | _ :: _, [], _, _, h => by simp [zipF] at h
  | a :: as, b :: bs, 0, d, h => ⟨a, b, rfl, rfl, by simpa [zipF] using h.symm⟩
  | a :: as, b :: bs, i + 1, d, h => by
    obtain ⟨x, y, h1, h2, h3⟩ := zipF_get as bs i d (by simpa [zipF] using h)
    exact ⟨x, y, by simpa using h1, by simpa using h2, h3⟩
@[reducible] def iEnum (Fa : FA) : FI := fun δ μ => (Fa δ μ).bind fun ds μ => match ds with
  | [d] => (match walkOf d μ with
    | some p => .ok (enumF 0 p.1, p.2) μ
    | none => .stuck)
  | _ => .stuck
@[reducible] def iZip (Fa : FA) : FI := fun δ μ => (Fa δ μ).bind fun ds μ => match ds with
  | [d, d'] => if isTupD d = isTupD d' then (match walkOf d μ, walkOf d' μ with
    | some p, some p' => .ok (zipF p.1 p'.1, p.2 ++ p'.2) μ
    | _, _ => .stuck) else .stuck
  | _ => .stuck
section
variable {X : Cx} {G : Gx} {W : WX} {e : Expr} {Fa : FA} {K : PySem.W.Frag}
/-- a new pair -/
theorem new_pair {ι : List Addr} {M H : Hp} {μ : Mu} {T : Addr} {x y : V} {d d' : D} (S : Sto K G ι M H μ) (hT : H T = none) (r : Rep K G ι M x d) (r' : Rep K G ι M y d') :
    ∃ M2, Ex M M2 ∧ Sto K G ι M2 (upd H T (.tup [x, y])) μ ∧ Rep K G ι M2 (.ref T) (.tup [d, d']) := by
  have x1 : Ext M (upd M T (.tup [x, y])) := Ext.upd (S.free hT)
  exact ⟨_, x1, S.frozen hT, .tup (SqT.of upd_same) (.cons (r.mono (Pre.refl _) x1) (.cons (r'.mono (Pre.refl _) x1) .nil))⟩
theorem itd_enum {ι : List Addr} {M : Hp} {a : Addr} {ds : List D} {gs : List (Nat × List D)} (h : SrcL K G a ds gs ι M) : ItD K G (Ite K a) (enumF 0 ds) gs ι M := fun ι' M' H μ p x S g i => by
  obtain ⟨xs, hx, r⟩ := h ι' M' H μ p x S g
  refine ⟨fun l => ⟨xs, hx, by rw [r.length]; rw [enumF_len] at l; omega⟩, fun d e => ?_⟩
  rw [enumF_get] at e
  obtain ⟨d0, e1, rfl⟩ := Option.map_eq_some_iff.mp e
  obtain ⟨v, h1, h2⟩ := r.getD e1
  refine ⟨⟨xs, v, hx, h1⟩, fun y H' ⟨T, x0, e1, e2, e3, q⟩ => ?_⟩
  subst e1
  subst e3
  have e4 := q xs hx
  rw [h1] at e4
  cases e4
  rw [Nat.zero_add]
  exact new_pair S e2 .int h2
theorem itd_enT {ι : List Addr} {M : Hp} {a : Addr} {ds : List D} {gs : List (Nat × List D)} (h : SrcT K G a ds gs ι M) : ItD K G (IteT K a) (enumF 0 ds) gs ι M := fun ι' M' H μ p x S g i => by
  obtain ⟨xs, hx, r⟩ := h ι' M' H μ p x S g
  refine ⟨fun l => ⟨xs, hx, by rw [r.length]; rw [enumF_len] at l; omega⟩, fun d e => ?_⟩
  rw [enumF_get] at e
  obtain ⟨d0, e1, rfl⟩ := Option.map_eq_some_iff.mp e
  obtain ⟨v, h1, h2⟩ := r.getD e1
  refine ⟨⟨xs, v, hx, h1⟩, fun y H' ⟨T, x0, e1, e2, e3, q⟩ => ?_⟩
  subst e1
  subst e3
  have e4 := q xs hx
  rw [h1] at e4
  cases e4
  rw [Nat.zero_add]
  exact new_pair S e2 .int h2
theorem itd_zip {ι : List Addr} {M : Hp} {a b : Addr} {ds es : List D} {gs gs' : List (Nat × List D)} (h : SrcL K G a ds gs ι M) (h' : SrcL K G b es gs' ι M) : ItD K G (Itz K a b) (zipF ds es) (gs ++ gs') ι M := fun ι' M' H μ p x S g i => by
  obtain ⟨g1, g2⟩ := gOk_app.mp g
  obtain ⟨xs, hx, r⟩ := h ι' M' H μ p x S g1
  obtain ⟨ys, hy, r'⟩ := h' ι' M' H μ p x S g2
  refine ⟨fun l => ⟨xs, ys, hx, hy, by rw [r.length, r'.length]; rw [zipF_len] at l; omega⟩, fun d e => ?_⟩
  obtain ⟨d1, d2, e1, e2, rfl⟩ := zipF_get _ _ _ _ e
  obtain ⟨v, h1, h2⟩ := r.getD e1
  obtain ⟨u, k1, k2⟩ := r'.getD e2
  refine ⟨⟨xs, ys, v, u, hx, hy, h1, k1⟩, fun y H' ⟨T, x0, y0, e1, e2, e3, q, q'⟩ => ?_⟩
  subst e1
  subst e3
  have e4 := q xs hx
  rw [h1] at e4
  cases e4
  have e5 := q' ys hy
  rw [k1] at e5
  cases e5
  exact new_pair S e2 h2 k2
theorem itd_zipT {ι : List Addr} {M : Hp} {a b : Addr} {ds es : List D} {gs gs' : List (Nat × List D)} (h : SrcT K G a ds gs ι M) (h' : SrcT K G b es gs' ι M) : ItD K G (RZ.ItzT K a b) (zipF ds es) (gs ++ gs') ι M := fun ι' M' H μ p x S g i => by
  obtain ⟨g1, g2⟩ := gOk_app.mp g
  obtain ⟨xs, hx, r⟩ := h ι' M' H μ p x S g1
  obtain ⟨ys, hy, r'⟩ := h' ι' M' H μ p x S g2
  refine ⟨fun l => ⟨xs, ys, hx, hy, by rw [r.length, r'.length]; rw [zipF_len] at l; omega⟩, fun d e => ?_⟩
  obtain ⟨d1, d2, e1, e2, rfl⟩ := zipF_get _ _ _ _ e
  obtain ⟨v, h1, h2⟩ := r.getD e1
  obtain ⟨u, k1, k2⟩ := r'.getD e2
  refine ⟨⟨xs, ys, v, u, hx, hy, h1, k1⟩, fun y H' ⟨T, x0, y0, e1, e2, e3, q, q'⟩ => ?_⟩
  subst e1
  subst e3
  have e4 := q xs hx
  rw [h1] at e4
  cases e4
  have e5 := q' ys hy
  rw [k1] at e5
  cases e5
  exact new_pair S e2 h2 k2
theorem i_enum {x : Expr} {p pos tpos : Pos} {elts : List Expr} {kk : Nat} (hm : X.mg "enumerate" = none) (ha : A3 X G W [x] Fa) (hg : Gl X "enumerate") (hs : starEach [x] X.env = [(false, eval x X.env)]) : I3 X G W (.Tuple elts kk tpos) (.Call (.Name "enumerate" p) [x] [] pos) (iEnum Fa) :=
  pi_imp (pi_enA hg hm ha hs) fun σ H R ⟨ι, M, δ, μ, S, Rn, f⟩ => ⟨ι, M, δ, μ, S, Rn, (Fin3.bind f).imp fun ι1 M1 H1 μ1 ds p1 x1 S1 q vs rvs => by
    match ds, q with
    | [d], q =>
      obtain ⟨v, rfl, r⟩ := reps1 rvs
      have q2 : Fin3 X.K G W σ ι1 M1 (match walkOf d μ1 with
        | some p => Res.ok (enumF 0 p.1, p.2) μ1
        | none => Res.stuck) (fun ι' M' H' _ p => ∀ J, ItD X.K G J p.1 p.2 ι' M' → R J H') := q
      cases ew : walkOf d μ1 with
      | none => rw [ew] at q2; exact q2.elim
      | some p =>
        rw [ew] at q2
        obtain ⟨a, rfl, k⟩ := walk_src S1 r ew
        rcases k with ⟨_, k, k2⟩ | ⟨_, k, k2⟩
        · exact ⟨a, rfl, .inl ⟨k2, q2 ι1 M1 H1 (Nx.refl S1) _ (itd_enum k)⟩⟩
        · exact ⟨a, rfl, .inr ⟨k2, q2 ι1 M1 H1 (Nx.refl S1) _ (itd_enT k)⟩⟩
    | [], q => exact q.elim
    | _ :: _ :: _, q => exact q.elim⟩
theorem i_zip {x y : Expr} {p pos tpos : Pos} {elts : List Expr} {kk : Nat} (hm : X.mg "zip" = none) (ha : A3 X G W [x, y] Fa) (hg : Gl X "zip") (hs : starEach [x, y] X.env = (false, eval x X.env) :: starEach [y] X.env) (hpl : (backTo pos (starEach [y] X.env)).any (·.1) = false) : I3 X G W (.Tuple elts kk tpos) (.Call (.Name "zip" p) [x, y] [] pos) (iZip Fa) :=
  pi_imp (RZ.pi_zipA hg hm ha hs hpl) fun σ H R ⟨ι, M, δ, μ, S, Rn, f⟩ => ⟨ι, M, δ, μ, S, Rn, (Fin3.bind f).imp fun ι1 M1 H1 μ1 ds p1 x1 S1 q vs rvs => by
    match ds, q with
    | [d, d'], q =>
      obtain ⟨v, v', rfl, r, r'⟩ := reps2 rvs
      have q2 : Fin3 X.K G W σ ι1 M1 (if isTupD d = isTupD d' then (match walkOf d μ1, walkOf d' μ1 with
        | some p, some p' => Res.ok (zipF p.1 p'.1, p.2 ++ p'.2) μ1
        | _, _ => Res.stuck) else Res.stuck) (fun ι' M' H' _ p => ∀ J, ItD X.K G J p.1 p.2 ι' M' → R J H') := q
      by_cases c : isTupD d = isTupD d'
      · rw [if_pos c] at q2
        cases ew : walkOf d μ1 with
        | none => rw [ew] at q2; exact q2.elim
        | some p =>
          cases ew' : walkOf d' μ1 with
          | none => rw [ew, ew'] at q2; exact q2.elim
          | some p' =>
            rw [ew, ew'] at q2
            obtain ⟨a, rfl, k⟩ := walk_src S1 r ew
            obtain ⟨b, rfl, k'⟩ := walk_src S1 r' ew'
            rcases k with ⟨t1, k, xs, k2⟩ | ⟨t1, k, xs, k2⟩
            · rcases k' with ⟨t2, k', ys, k2'⟩ | ⟨t2, k', ys, k2'⟩
              · exact ⟨a, b, xs, ys, rfl, .inl ⟨k2, k2', q2 ι1 M1 H1 (Nx.refl S1) _ (itd_zip k k')⟩⟩
              · rw [t1, t2] at c; cases c
            · rcases k' with ⟨t2, k', ys, k2'⟩ | ⟨t2, k', ys, k2'⟩
              · rw [t1, t2] at c; cases c
              · exact ⟨a, b, xs, ys, rfl, .inr ⟨k2, k2', q2 ι1 M1 H1 (Nx.refl S1) _ (itd_zipT k k')⟩⟩
      · rw [if_neg c] at q2; exact q2.elim
    | [], q => exact q.elim
    | [_], q => exact q.elim
    | _ :: _ :: _ :: _, q => exact q.elim⟩
end
end L3

set_option maxRecDepth 100000
set_option maxHeartbeats 2000000
/-! L3i: an int compared with an own instance: int declines, the instance's mirrored method is called. -/
namespace L3
open PySem PySem.Spec PyProof.Rows L2
section
open PySem.W
variable {prog : Program} {w : World} {A : Around} {E : Value → Shared → Prop} {s : Shared} {K : PySem.W.Frag} {x C L f : Addr} {h₀ : Heap} {m : Str → Option Value} {ox : Obj} {od : Option Obj}
theorem cmp_rT {op : CmpOp} {i : Int} {t : Tok} {id : String} {B : Builtin} {Q : Value → Shared → Prop} (hu : A.units < cLine) (F : Fr h₀ L s.heap m) (X₀ : K.In h₀) (I : InstAt s.heap x ox C od)
    (hsub : subIn K (.ref C) (.type "int") = some false) (hs : findIn K (.ref C) (cmpInfo op).2.2 = some (some (.ref f))) (hf : isFn K (.ref f) = true)
    (slot : Slot "int" (cmpInfo op).2.1 id) (entry : entryFor table id = some B) (args : argsOk id ⟨[.int i t, .ref x], []⟩)
    (hB : ∀ {A : Around} {Q : Fin → Shared → Prop}, Q (.done (.ret .notImplemented)) s → wpAny (model prog w) A (B ⟨[.int i t, .ref x], []⟩) Q E s)
    (h : wpAny (model prog w) A (call (.ref f) [.ref x, .int i t]) (PySem.W.CmpBack Q) E s) : wpAny (model prog w) A (richCompare op (.int i t) (.ref x)) Q E s := by
  have X := X₀.keeps F.keep
  have one : wpAny (model prog w) A (tryCompare (.ref x) (cmpInfo op).2.2 (.int i t)) (fun r s' => ∃ v, r = some v ∧ Q v s') E s := by
    unfold tryCompare
    refine wpAny_bind (ifBound_K X I hs hf (wpAny_mono h (fun v s' hv => ?_) fun _ _ e => e))
    cases v <;> first | exact hv.elim | exact wpAny_pure ⟨_, rfl, hv⟩
  have dec : ∀ {Q : Option Value → Shared → Prop}, Q none s → wpAny (model prog w) A (tryCompare (.int i t) (cmpInfo op).2.1 (.ref x)) Q E s := fun {Q} q =>
    wpAny_tryCompare_declines (typeIs_int s i t) slot (wpAny_call_entry slot (typeIs_int s i t) entry (hB ⟨_, rfl, rfl, q⟩) args)
  rcases hi : cmpInfo op with ⟨sym, nf, nr⟩
  rw [hi] at one dec
  simp only [richCompare, hi, (typeIs_int s i t).oneThing_none]
  try with_reducible refine wpAny_holding ?_
  refine wpAny_bind (wpAny_cRoomFor hu ?_)
  refine wpAny_bind (wpAny_typeOf (typeIs_int s i t) (wpAny_bind (I.type.here ?_)))
  have hne : (Value.type "int" != Value.ref C) = true := by simp
  simp only [hne, if_true]
  refine wpAny_bind ((looks_subIn X hsub).here ?_)
  simp only [Bool.false_eq_true, if_false, Bool.not_false, if_true]
  refine wpAny_bind (m := tryCompare _ _ _) (dec ?_)
  refine wpAny_bind (m := tryCompare _ _ _) (wpAny_mono one (fun r s' z => ?_) fun _ _ e => e)
  obtain ⟨v, rfl, hq⟩ := z
  exact wpAny_pure hq
/-- .. for each of the operators -/
theorem cmp_int_own {op : CmpOp} (ho : op ∈ [CmpOp.Lt, .LtE, .Gt, .GtE, .Eq]) {i : Int} {t : Tok} {Q : Value → Shared → Prop} (hu : A.units < cLine) (F : Fr h₀ L s.heap m) (X₀ : K.In h₀) (I : InstAt s.heap x ox C od) (hd : ox.data = .plain)
    (hsub : subIn K (.ref C) (.type "int") = some false) (hs : findIn K (.ref C) (cmpInfo op).2.2 = some (some (.ref f))) (hf : isFn K (.ref f) = true)
    (h : wpAny (model prog w) A (call (.ref f) [.ref x, .int i t]) (PySem.W.CmpBack Q) E s) : wpAny (model prog w) A (richCompare op (.int i t) (.ref x)) Q E s := by
  cases op with
  | Lt => exact cmp_rT hu F X₀ I hsub hs hf PySem.F.slot_int_lt PySem.F.entry_int_lt (PySem.F.args_int_lt_2 _ _) (fun q => intBinary_declines I hd q) h
  | LtE => exact cmp_rT hu F X₀ I hsub hs hf PySem.F.slot_int_le PySem.F.entry_int_le (PySem.F.args_int_le_2 _ _) (fun q => intBinary_declines I hd q) h
  | Gt => exact cmp_rT hu F X₀ I hsub hs hf PySem.F.slot_int_gt PySem.F.entry_int_gt (PySem.F.args_int_gt_2 _ _) (fun q => intBinary_declines I hd q) h
  | GtE => exact cmp_rT hu F X₀ I hsub hs hf PySem.F.slot_int_ge PySem.F.entry_int_ge (PySem.F.args_int_ge_2 _ _) (fun q => intBinary_declines I hd q) h
  | Eq => exact cmp_rT hu F X₀ I hsub hs hf PySem.F.slot_int_eq PySem.F.entry_int_eq (PySem.F.args_int_eq_2 _ _) (fun q => intBinary_declines I hd q) h
  | _ => simp at ho
end
end L3

set_option maxRecDepth 100000
set_option maxHeartbeats 2000000
/-! L4a: operations on data that may run own methods. -/
namespace L3
open PySem PySem.Spec PyProof.Rows L2

/-- what a result of data asks of a value's end -/
abbrev FinD (X : Cx) (G : Gx) (W : WX) (σ : L2.St) (ι : List Addr) (M : Hp) (r : Res D) (Q : VK) : Prop := Fin3 X.K G W σ ι M r (fun ι' M' H' _ d => ∀ w, Rep X.K G ι' M' w d → Q w H')
/-- a two-place operation | a one-place one | a call with values, on data -/
def OpG (X : Cx) (G : Gx) (W : WX) (f : Value → Value → Sem Value) (g : D → D → PM D) : Prop :=
  ∀ (pins : List (Addr × Obj)) (s : Shared) (σ : L2.St) (ι : List Addr) (M H : Hp) (μ : Mu) (x y : D) (v u : V) (vv uu : Value) (Q : VK), Inv X pins σ H s → RelV v vv → RelV u uu → Sto X.K G ι M H μ → Rep X.K G ι M v x → Rep X.K G ι M u y →
    FinD X G W σ ι M (g x y μ) Q → wpAny (model X.prog X.w) X.A (f vv uu) (EP X pins σ Q) X.xe s
def UnG (X : Cx) (G : Gx) (W : WX) (f : Value → Sem Value) (g : D → PM D) : Prop :=
  ∀ (pins : List (Addr × Obj)) (s : Shared) (σ : L2.St) (ι : List Addr) (M H : Hp) (μ : Mu) (x : D) (v : V) (vv : Value) (Q : VK), Inv X pins σ H s → RelV v vv → Sto X.K G ι M H μ → Rep X.K G ι M v x →
    FinD X G W σ ι M (g x μ) Q → wpAny (model X.prog X.w) X.A (f vv) (EP X pins σ Q) X.xe s
def CallG (X : Cx) (G : Gx) (W : WX) (f : Value) (g : List D → PM D) : Prop :=
  ∀ (pins : List (Addr × Obj)) (s : Shared) (σ : L2.St) (ι : List Addr) (M H : Hp) (μ : Mu) (ds : List D) (vs : List V) (us : List Value) (Q : VK), Inv X pins σ H s → Vals vs us → Sto X.K G ι M H μ → Reps X.K G ι M vs ds →
    FinD X G W σ ι M (g ds μ) Q → wpAny (model X.prog X.w) X.A (call f us) (EP X pins σ Q) X.xe s
section
variable {X : Cx} {G : Gx} {W : WX}
theorem OpG.of {f : Value → Value → Sem Value} {r : R2} {g : D → D → PM D} (ho : OpR X f r) (hg : Op2 X.K G W r g) : OpG X G W f g :=
  fun pins s σ ι M H μ x y v u vv uu Q I rv ru S rx ry q => ho pins s σ H v u vv uu Q I rv ru (hg σ ι M H μ x y v u Q S rx ry q)
theorem UnG.of {f : Value → Sem Value} {r : V → Hp → VK → Prop} {g : D → PM D} (ho : UnR X f r) (hg : Op1 X.K G W r g) : UnG X G W f g :=
  fun pins s σ ι M H μ x v vv Q I rv S rx q => ho pins s σ H v vv Q I rv (hg σ ι M H μ x v Q S rx q)
theorem OpG.stuck {f : Value → Value → Sem Value} : OpG X G W f (fun _ _ _ => .stuck) := fun _ _ _ _ _ _ _ _ _ _ _ _ _ _ _ _ _ _ _ _ q => q.elim
variable {a b : Expr} {Fa Fb : FE} {pos : Pos}
theorem e_binG {op : Operator} {g : D → D → PM D} (h : OpG X G W (binaryOp op) g) (ha : E3 X G W a Fa) (hb : E3 X G W b Fb) : E3 X G W (.BinOp a op b pos) (dBin g Fa Fb) := by
  refine ⟨fun pins s σ H Q I ⟨ι, M, δ, μ, S, R, f⟩ => ?_⟩
  refine wpAny_BinOp (ha.go I S R (Fin3.bind f) fun u1 s1 v1 ι1 M1 H1 μ1 d1 I1 r1 p1 x1 S1 R1 rv1 f1 => ?_)
  refine hb.go I1 S1 R1 (Fin3.bind f1) fun u2 s2 v2 ι2 M2 H2 μ2 d2 I2 r2 p2 x2 S2 R2 rv2 f2 => ?_
  exact h pins s2 σ ι2 M2 H2 μ2 d1 d2 v1 v2 u1 u2 Q I2 r1 r2 S2 (rv1.mono p2 x2) rv2 f2
theorem e_cmpG {op : CmpOp} {g : D → D → PM D} (h : OpG X G W (compareOp op) g) (ha : E3 X G W a Fa) (hb : E3 X G W b Fb) (hm : behindInMarks op b = false) : E3 X G W (.Compare a [op] [b] pos) (dBin g Fa Fb) := by
  refine ⟨fun pins s σ H Q I ⟨ι, M, δ, μ, S, R, f⟩ => ?_⟩
  refine wpAny_Compare1 (ha.go I S R (Fin3.bind f) fun u1 s1 v1 ι1 M1 H1 μ1 d1 I1 r1 p1 x1 S1 R1 rv1 f1 => ?_) hm
  refine hb.go I1 S1 R1 (Fin3.bind f1) fun u2 s2 v2 ι2 M2 H2 μ2 d2 I2 r2 p2 x2 S2 R2 rv2 f2 => ?_
  exact h pins s2 σ ι2 M2 H2 μ2 d1 d2 v1 v2 u1 u2 Q I2 r1 r2 S2 (rv1.mono p2 x2) rv2 f2
theorem t_cmpG {op : CmpOp} {g : D → D → PM D} (h : OpG X G W (compareOp op) g) (ha : E3 X G W a Fa) (hb : E3 X G W b Fb) (hm : behindInMarks op b = false) : T3 X G W (.Compare a [op] [b] pos) (asB (dBin g Fa Fb)) := by
  refine ⟨fun pins s σ H Q I ⟨ι, M, δ, μ, S, R, f⟩ => ?_⟩
  have f' : Fin3 X.K G W σ ι M ((asB (dBin g Fa Fb) δ μ).bind fun b m => .ok b m) (fun _ _ H' _ b => Q b H') := by
    cases h : asB (dBin g Fa Fb) δ μ with
    | ok d m => rw [h] at f; exact f
    | exc c fs m => rw [h] at f; exact f
    | stuck => rw [h] at f; exact f
  have f0 := Fin3.asB f'
  refine wpAny_isTrue_Compare1 (ha.go I S R (Fin3.bind f0) fun u1 s1 v1 ι1 M1 H1 μ1 d1 I1 r1 p1 x1 S1 R1 rv1 f1 => ?_) hm
  refine hb.go I1 S1 R1 (Fin3.bind f1) fun u2 s2 v2 ι2 M2 H2 μ2 d2 I2 r2 p2 x2 S2 R2 rv2 f2 => ?_
  refine thn (h pins s2 σ ι2 M2 H2 μ2 d1 d2 v1 v2 u1 u2 (fun w H' => ∃ b, w = .bl b ∧ Q b H') I2 r1 r2 S2 (rv1.mono p2 x2) rv2 (Fin3.imp f2 fun ι' M' H' μ' d p x S' ⟨b, e, q⟩ w rw => ?_)) fun c s3 ⟨w, H', I3, rw, b, e, q⟩ => ?_
  · subst e
    exact ⟨b, rep_bl rw, Fin3.ok q S'⟩
  · subst e
    cases rw
    exact wpAny_truthy_bool ⟨H', I3, q⟩
theorem e_unG {op : UnaryOp} {g : D → PM D} (h : UnG X G W (unaryOp op) g) (ha : E3 X G W a Fa) : E3 X G W (.UnaryOp op a pos) (dUn g Fa) := by
  refine ⟨fun pins s σ H Q I ⟨ι, M, δ, μ, S, R, f⟩ => ?_⟩
  refine UnaryOp_ (ha.go I S R (Fin3.bind f) fun u1 s1 v1 ι1 M1 H1 μ1 d1 I1 r1 p1 x1 S1 R1 rv1 f1 => ?_)
  exact h pins s1 σ ι1 M1 H1 μ1 d1 v1 u1 Q I1 r1 S1 rv1 f1
/-- a call on data -/
@[reducible] def dCB (g : List D → PM D) (Fa : FA) : FE := fun δ μ => (Fa δ μ).bind fun ds μ => g ds μ
theorem e_callBG {x : Str} {id : String} {p : Pos} {es : List Expr} {e : Expr} {Fr : FA} {g : List D → PM D} (h : CallG X G W (.builtin id) g) (hg : Gl X x) (hm : X.mg x = none) (hv : bootBuiltins x = some (.builtin id)) (ha : A3 X G W (e :: es) Fr) (hn : x ≠ "__name__") (hdb : (x == ("__debug__" : Str)) = false)
    (he : starEach (e :: es) X.env = (false, eval e X.env) :: starEach es X.env) (hpl : (backTo pos (starEach es X.env)).any (·.1) = false) : E3 X G W (.Call (.Name x p) (e :: es) [] pos) (dCB g Fr) := by
  refine ⟨fun pins s σ H Q I ⟨ι, M, δ, μ, S, R, f⟩ => ?_⟩
  refine wpAny_Call_Name_kw (ld_blt I hg hm hv ?_ hn hdb)
  refine PyProof.Rows.callWith_builtin1 (ha.go I S R (Fin3.bind f) fun us s1 vs ι1 M1 H1 μ1 ds I1 r1 p1 x1 S1 R1 rv1 f1 => ?_) he hpl
  exact h pins s1 σ ι1 M1 H1 μ1 ds vs us Q I1 r1 S1 rv1 f1
theorem e_callTG {x : Str} {id : String} {p : Pos} {es : List Expr} {e : Expr} {Fr : FA} {g : List D → PM D} (h : CallG X G W (.type id) g) (hg : Gl X x) (hm : X.mg x = none) (hv : bootBuiltins x = some (.type id)) (ha : A3 X G W (e :: es) Fr) (hn : x ≠ "__name__") (hdb : (x == ("__debug__" : Str)) = false)
    (he : starEach (e :: es) X.env = (false, eval e X.env) :: starEach es X.env) (hpl : (backTo pos (starEach es X.env)).any (·.1) = false) : E3 X G W (.Call (.Name x p) (e :: es) [] pos) (dCB g Fr) := by
  refine ⟨fun pins s σ H Q I ⟨ι, M, δ, μ, S, R, f⟩ => ?_⟩
  refine wpAny_Call_Name_kw (ld_blt I hg hm hv ?_ hn hdb)
  refine PyProof.Rows.callWith_type1 (ha.go I S R (Fin3.bind f) fun us s1 vs ι1 M1 H1 μ1 ds I1 r1 p1 x1 S1 R1 rv1 f1 => ?_) he hpl
  exact h pins s1 σ ι1 M1 H1 μ1 ds vs us Q I1 r1 S1 rv1 f1
end

/-! ### own methods behind operators -/
theorem relv_notImpl {v : V} {u : Value} (r : RelV v u) : u ≠ .notImplemented := by
  cases v with
  | non => cases r; exact fun z => nomatch z
  | bl _ => cases r; exact fun z => nomatch z
  | int _ => obtain ⟨t, rfl⟩ := r; exact fun z => nomatch z
  | str _ => obtain ⟨t, rfl⟩ := r; exact fun z => nomatch z
  | byt _ => obtain ⟨t, rfl⟩ := r; exact fun z => nomatch z
  | flt _ => obtain ⟨t, rfl⟩ := r; exact fun z => nomatch z
  | ref _ => cases r; exact fun z => nomatch z
  | ty _ => cases r; exact fun z => nomatch z
theorem back_of {X : Cx} {pins : List (Addr × Obj)} {σ : L2.St} {Q : VK} {u : Value} {s : Shared} (h : EP X pins σ Q u s) : PySem.W.CmpBack (EP X pins σ Q) u s := by
  obtain ⟨v, H', I, r, q⟩ := h
  have := relv_notImpl r
  have h : EP X pins σ Q u s := ⟨v, H', I, r, q⟩
  cases u <;> first | exact h | exact absurd rfl this
theorem inv_fr {X : Cx} {pins : List (Addr × Obj)} {σ : L2.St} {H : Hp} {s : Shared} (I : Inv X pins σ H s) : ∃ m, Fr X.base X.env.locals s.heap m := by
  obtain ⟨m, hn, _⟩ := I.loc
  exact ⟨m, hn, fun b o e => (I.bs b o e).1, Nat.le_trans I.ok.bsz I.ok.above⟩
/-- an own def's promise with all its parameters given -/
structure Own (X : Cx) (G : Gx) (k : Nat) (f : Addr) (np : Nat) (F : List D → PM D) : Prop where
  ar : ∀ ds μ, ds.length ≠ np → F ds μ = .stuck
  ex : ∃ (fd : FuncData) (ps : List Str), FnOk X.prog X.w X.K X.mg X.base (L2.CX X.prog X.w) k f fd ps (sp3 X.K G np F) ∧ Binds X.K fd ps []
section
variable {X : Cx} {G : Gx} {W : WX} {k : Nat} {f : Addr} {np : Nat} {F : List D → PM D}
theorem Own.run (T : Own X G k f np F) (hr : Room k X.A) (tk : Takes X W) {pins : List (Addr × Obj)} {s : Shared} {σ : L2.St} {H M : Hp} {ι : List Addr} {μ : Mu} {us : List Value} {vs : List V} {ds : List D} {Q : VK} (I : Inv X pins σ H s) (S : Sto X.K G ι M H μ)
    (r : Vals vs us) (rv : Reps X.K G ι M vs ds) (q : FinD X G W σ ι M (F ds μ) Q) : wpAny (model X.prog X.w) X.A (call (.ref f) us) (EP X pins σ Q) X.xe s := by
  obtain ⟨fd, ps, ok, hb⟩ := T.ex
  exact run_fnSD (us := us) (vs := vs) (ds := []) (dvs := []) (E := WE W) ok hr hb .nil (passAt tk σ) I r (by rw [List.append_nil]; exact ⟨rv.length.trans (Fin3.ar T.ar q), ι, M, μ, ds, S, rv, q.call⟩)
end
/-- what operators ask of a class -/
structure OpC (K : PySem.W.Frag) (C : Addr) : Prop where
  sf : PySem.W.selfFirst K C = true
  s1 : PySem.W.subIn K (.ref C) (.type "int") = some false
  s2 : PySem.W.subIn K (.type "int") (.ref C) = some false
def OpC.ok (K : PySem.W.Frag) (C : Addr) : Bool := PySem.W.selfFirst K C && (decide (PySem.W.subIn K (.ref C) (.type "int") = some false) && decide (PySem.W.subIn K (.type "int") (.ref C) = some false))
theorem OpC.of {K : PySem.W.Frag} {C : Addr} (h : OpC.ok K C = true) : OpC K C := by
  unfold OpC.ok at h
  simp only [Bool.and_eq_true, decide_eq_true_eq] at h
  exact ⟨h.1, h.2.1, h.2.2⟩
/-- what an operator asks of int -/
def OpI (K : PySem.W.Frag) (op : Operator) : Prop := ∃ fo ro, PySem.W.findIn K (.type "int") (PySem.dunder op.info.2) = some fo ∧ PySem.W.findIn K (.type "int") (dunderR op.info.2) = some ro ∧ ((fo.isSome && !isSeqSlot fo) || (ro.isSome && !isSeqSlot ro)) = true
def OpI.ok (K : PySem.W.Frag) (op : Operator) : Bool := match PySem.W.findIn K (.type "int") (PySem.dunder op.info.2), PySem.W.findIn K (.type "int") (dunderR op.info.2) with
  | some fo, some ro => (fo.isSome && !isSeqSlot fo) || (ro.isSome && !isSeqSlot ro)
  | _, _ => false
theorem OpI.of {K : PySem.W.Frag} {op : Operator} (h : OpI.ok K op = true) : OpI K op := by
  unfold OpI.ok at h
  cases e1 : PySem.W.findIn K (.type "int") (PySem.dunder op.info.2) with
  | none => rw [e1] at h; cases h
  | some fo =>
    cases e2 : PySem.W.findIn K (.type "int") (dunderR op.info.2) with
    | none => rw [e1, e2] at h; cases h
    | some ro =>
      rw [e1, e2] at h
      exact ⟨fo, ro, e1, e2, h⟩
theorem rr (a : Addr) : RelV (.ref a) (.ref a) := rfl
theorem ri (i : Int) (t : Tok) : RelV (.int i) (.int i t) := ⟨t, rfl⟩
section
variable {X : Cx} {G : Gx} {W : WX} {k : Nat} {f g : Addr} {F : List D → PM D} {op : Operator} {c : Nat}
variable {pins : List (Addr × Obj)} {s : Shared} {σ : L2.St} {ι : List Addr} {M H : Hp} {μ : Mu} {x y : D} {v u : V} {vv uu : Value} {Q : VK} {fs gs : List D}
/-- the instance that a value is -/
theorem Sto.inst (S : Sto X.K G ι M H μ) (I : Inv X pins σ H s) (e : insOf x μ = some (c, fs)) (r : Rep X.K G ι M v x) (rv : RelV v vv) :
    ∃ a ox od, v = .ref a ∧ vv = .ref a ∧ ox.data = .plain ∧ PySem.W.InstAt s.heap a ox (G.cA c) (some od) := by
  obtain ⟨a, dx, vs, rfl, h, l, _⟩ := S.ins e r
  obtain ⟨mA, O, _⟩ := ins_get I.hok h
  obtain ⟨od, J, _⟩ := O.look
  exact ⟨a, _, od, rfl, rv, rfl, J⟩
/-- o + o', both of one class -/
theorem own_same (T : Own X G k f 2 F) (oc : OpC X.K (G.cA c)) (mt : Meth X.K (G.cA c) (PySem.dunder op.info.2) f) (hr : Room k X.A) (tk : Takes X W) (I : Inv X pins σ H s) (rv : RelV v vv) (ru : RelV u uu) (S : Sto X.K G ι M H μ) (rx : Rep X.K G ι M v x) (ry : Rep X.K G ι M u y)
    (ex : insOf x μ = some (c, fs)) (ey : insOf y μ = some (c, gs)) (q : FinD X G W σ ι M (F [x, y] μ) Q) : wpAny (model X.prog X.w) X.A (binaryOp op vv uu) (EP X pins σ Q) X.xe s := by
  obtain ⟨m, fr⟩ := inv_fr I
  obtain ⟨a, ox, od, rfl, rfl, _, J⟩ := S.inst I ex rx rv
  obtain ⟨b, oy, od', rfl, rfl, _, J'⟩ := S.inst I ey ry ru
  refine PySem.W.binop_K fr I.ok.mod.kin J (PySem.W.InstAt.type J') oc.sf mt.at_ mt.fn ?_
  exact thn (T.run hr tk I S (.cons (rr a) (.cons (rr b) .nil)) (.cons rx (.cons ry .nil)) q) fun u s' h => back_of h
/-- o + i -/
theorem own_int {i : Int} (T : Own X G k f 2 F) (oc : OpC X.K (G.cA c)) (oi : OpI X.K op) (mt : Meth X.K (G.cA c) (PySem.dunder op.info.2) f) {rc : Option Value} (mr : PySem.W.findIn X.K (.ref (G.cA c)) (dunderR op.info.2) = some rc) (mr2 : rc = none ∨ ∃ g : Addr, rc = some (.ref g)) (hr : Room k X.A) (tk : Takes X W) (I : Inv X pins σ H s) (rv : RelV v vv) (ru : RelV u uu) (S : Sto X.K G ι M H μ) (rx : Rep X.K G ι M v x)
    (ry : Rep X.K G ι M u (.int i)) (ex : insOf x μ = some (c, fs)) (q : FinD X G W σ ι M (F [x, .int i] μ) Q) : wpAny (model X.prog X.w) X.A (binaryOp op vv uu) (EP X pins σ Q) X.xe s := by
  obtain ⟨m, fr⟩ := inv_fr I
  obtain ⟨a, ox, od, rfl, rfl, _, J⟩ := S.inst I ex rx rv
  cases rep_int ry
  obtain ⟨t, rfl⟩ := ru
  obtain ⟨fo, ro, h1, h2, _⟩ := oi
  refine PySem.W.ksp_binT (T := "int") fr I.ok.mod.kin J rfl oc.sf mt.at_ mt.fn mr mr2 h1 h2 oc.s2 ?_
  exact thn (T.run hr tk I S (.cons (rr a) (.cons (ri i t) .nil)) (.cons rx (.cons ry .nil)) q) fun u s' h => back_of h
/-- i + o: int declines, the reflected method runs -/
theorem int_own {i : Int} (T : Own X G k f 2 F) (oc : OpC X.K (G.cA c)) (oi : OpI X.K op) (mt : Meth X.K (G.cA c) (PySem.dunder op.info.2) g) (mr : Meth X.K (G.cA c) (dunderR op.info.2) f)
    (hd : ∀ {A : Around} {E : Value → Shared → Prop} {s : Shared} {x C : Addr} {ox : Obj} {od : Option Obj} {t : Tok} {Q : Option Value → Shared → Prop}, PySem.W.InstAt s.heap x ox C od → ox.data = .plain → Q none s → wpAny (model X.prog X.w) A (tryMethod (.int i t) (PySem.dunder op.info.2) (.ref x)) Q E s)
    (hr : Room k X.A) (tk : Takes X W) (I : Inv X pins σ H s) (rv : RelV v vv) (ru : RelV u uu) (S : Sto X.K G ι M H μ) (rx : Rep X.K G ι M v (.int i)) (ry : Rep X.K G ι M u y) (ey : insOf y μ = some (c, gs)) (q : FinD X G W σ ι M (F [y, .int i] μ) Q) :
    wpAny (model X.prog X.w) X.A (binaryOp op vv uu) (EP X pins σ Q) X.xe s := by
  obtain ⟨m, fr⟩ := inv_fr I
  obtain ⟨b, oy, od', rfl, rfl, pl, J⟩ := S.inst I ey ry ru
  cases rep_int rx
  obtain ⟨t, rfl⟩ := rv
  obtain ⟨fo, ro, h1, h2, hl⟩ := oi
  refine ksp_rT (T := "int") fr I.ok.mod.kin J rfl oc.sf mt.at_ mr.at_ mr.fn h1 h2 oc.s1 hl (fun q => hd J pl q) ?_
  exact thn (T.run hr tk I S (.cons (rr b) (.cons (ri i t) .nil)) (.cons ry (.cons rx .nil)) q) fun u s' h => back_of h
/-- -o, +o -/
theorem own_neg (T : Own X G k f 1 F) (mt : Meth X.K (G.cA c) "__neg__" f) (hr : Room k X.A) (tk : Takes X W) (I : Inv X pins σ H s) (rv : RelV v vv) (S : Sto X.K G ι M H μ) (rx : Rep X.K G ι M v x)
    (ex : insOf x μ = some (c, fs)) (q : FinD X G W σ ι M (F [x] μ) Q) : wpAny (model X.prog X.w) X.A (unaryOp .USub vv) (EP X pins σ Q) X.xe s := by
  obtain ⟨m, fr⟩ := inv_fr I
  obtain ⟨a, ox, od, rfl, rfl, _, J⟩ := S.inst I ex rx rv
  exact PySem.W.ksp_neg fr I.ok.mod.kin J mt.at_ mt.fn (T.run hr tk I S (.cons (rr a) .nil) (.cons rx .nil) q)
theorem own_pos (T : Own X G k f 1 F) (mt : Meth X.K (G.cA c) "__pos__" f) (hr : Room k X.A) (tk : Takes X W) (I : Inv X pins σ H s) (rv : RelV v vv) (S : Sto X.K G ι M H μ) (rx : Rep X.K G ι M v x)
    (ex : insOf x μ = some (c, fs)) (q : FinD X G W σ ι M (F [x] μ) Q) : wpAny (model X.prog X.w) X.A (unaryOp .UAdd vv) (EP X pins σ Q) X.xe s := by
  obtain ⟨m, fr⟩ := inv_fr I
  obtain ⟨a, ox, od, rfl, rfl, _, J⟩ := S.inst I ex rx rv
  exact PySem.W.ksp_pos fr I.ok.mod.kin J mt.at_ mt.fn (T.run hr tk I S (.cons (rr a) .nil) (.cons rx .nil) q)
/-- comparisons: o < o', o < i -/
theorem own_cmp {cop : CmpOp} (T : Own X G k f 2 F) (hop : ∀ a b, compareOp cop a b = richCompare cop a b) (mt : Meth X.K (G.cA c) (cmpInfo cop).2.1 f) (hr : Room k X.A) (tk : Takes X W) (I : Inv X pins σ H s) (rv : RelV v vv) (ru : RelV u uu) (S : Sto X.K G ι M H μ)
    (rx : Rep X.K G ι M v x) (ry : Rep X.K G ι M u y) (ex : insOf x μ = some (c, fs)) (ey : insOf y μ = some (c, gs)) (q : FinD X G W σ ι M (F [x, y] μ) Q) : wpAny (model X.prog X.w) X.A (compareOp cop vv uu) (EP X pins σ Q) X.xe s := by
  obtain ⟨m, fr⟩ := inv_fr I
  obtain ⟨a, ox, od, rfl, rfl, _, J⟩ := S.inst I ex rx rv
  obtain ⟨b, oy, od', rfl, rfl, _, J'⟩ := S.inst I ey ry ru
  rw [hop]
  refine PySem.W.cmp_K (by have := hr.un; omega) fr I.ok.mod.kin J (PySem.W.InstAt.type J') (Bool.or_eq_true_iff.mpr (.inl (beq_self_eq_true _))) mt.at_ mt.fn ?_
  exact thn (T.run hr tk I S (.cons (rr a) (.cons (rr b) .nil)) (.cons rx (.cons ry .nil)) q) fun u s' h => back_of h
theorem own_cmpI {cop : CmpOp} {i : Int} (T : Own X G k f 2 F) (hop : ∀ a b, compareOp cop a b = richCompare cop a b) (oc : OpC X.K (G.cA c)) (mt : Meth X.K (G.cA c) (cmpInfo cop).2.1 f) (hr : Room k X.A) (tk : Takes X W) (I : Inv X pins σ H s) (rv : RelV v vv) (ru : RelV u uu) (S : Sto X.K G ι M H μ)
    (rx : Rep X.K G ι M v x) (ry : Rep X.K G ι M u (.int i)) (ex : insOf x μ = some (c, fs)) (q : FinD X G W σ ι M (F [x, .int i] μ) Q) : wpAny (model X.prog X.w) X.A (compareOp cop vv uu) (EP X pins σ Q) X.xe s := by
  obtain ⟨m, fr⟩ := inv_fr I
  obtain ⟨a, ox, od, rfl, rfl, _, J⟩ := S.inst I ex rx rv
  cases rep_int ry
  obtain ⟨t, rfl⟩ := ru
  rw [hop]
  refine PySem.W.cmp_K (tb := .type "int") (by have := hr.un; omega) fr I.ok.mod.kin J (PySem.W.Looks.of_pure rfl) (Bool.or_eq_true_iff.mpr (.inr (by rw [oc.s2]; rfl))) mt.at_ mt.fn ?_
  exact thn (T.run hr tk I S (.cons (rr a) (.cons (ri i t) .nil)) (.cons rx (.cons ry .nil)) q) fun u s' h => back_of h
end
end L3

set_option maxRecDepth 100000
set_option maxHeartbeats 4000000
/-! L4w: == and != of lists and tuples, item by item, with both answers. -/
namespace L3
namespace GQ2
open PySem PySem.SeqAt GQ
open AutoSeq1 (wpAny_loadPart')
open MeetsSeq MeetsSeq2 MeetsSeq3 SeqRoads2
section
variable {prog : Program} {w : World} {A : Around} {R : Result → Shared → Prop}
/-- two lists that can be read, N items each -/
def Two (l b : Addr) (N : Nat) (s : Shared) (items items2 : Array Value) : Prop := ∃ n n2 : Nat, s.heap.get? l = some { cls := .type "list", data := .seq items n } ∧ s.heap.get? b = some { cls := .type "list", data := .seq items2 n2 } ∧ items.size = N ∧ items2.size = N
/-- at each turn the two lists are read anew -/
def ListJ (prog : Program) (w : World) (A : Around) (E : Value → Shared → Prop) (l b : Addr) (N : Nat) (I : Nat → Shared → Prop) (J : Shared → Prop) : Prop :=
  ∀ i s, I i s → ∃ (items items2 : Array Value), Two l b N s items items2 ∧
    ∀ (h1 : i < items.size) (h2 : i < items2.size), wpAny (model prog w) A.in1 (eqBool items[i] items2[i]) (fun r s' => if r = true then I (i + 1) s' else J s' ∧ ∃ its its2, Two l b N s' its its2) E s
theorem eq_loopB (l b : Addr) (N : Nat) (I : Nat → Shared → Prop) (J : Shared → Prop) (hl : ListJ prog w A (fun e s' => R (.error e) s') l b N I J)
    (fin : ∀ s, I N s → R (.ok (.ret (.bool true))) s) (dif : ∀ s, J s → R (.ok (.ret (.bool false))) s) (k : Nat) :
    ∀ i : Nat, N - i = k → i ≤ N → ∀ s, I i s →
      wpAny (model prog w) A.in1 (Builtin.«list.__eq__.loop» ⟨[.ref l, .ref b, rawInt i, rawInt 2], []⟩) (FinOf prog w A R) (fun e s' => R (.error e) s') s := by
  induction k with
  | zero =>
    intro i hk hi s h
    obtain ⟨items, items2, ⟨n, n2, hl1, hb1, hs1, hs2⟩, _⟩ := hl _ _ h
    have hi' : i = N := by omega
    have hR : R (.ok (.ret (.bool true))) s := fin s (hi' ▸ h)
    obtain ⟨hp, g, d, tk, os⟩ := s
    wp_walk using wpAny_loadPart' hl1, wpAny_loadPart' hb1
    have hi1 : items[((i : Nat) : Int).toNat]? = none := by simp; omega
    have hi2 : items2[((i : Nat) : Int).toNat]? = none := by simp; omega
    rw [hi1, hi2]
    wp_walk using wpAny_loadPart' hl1, wpAny_loadPart' hb1
    show R (.ok (.ret (.bool (items.size == items2.size)))) _
    rw [hs1, hs2]
    simpa using hR
  | succ k ih =>
    intro i hk hi s h
    obtain ⟨items, items2, ⟨n, n2, hl1, hb1, hs1, hs2⟩, turn⟩ := hl _ _ h
    have hlt : i < items.size := by omega
    have hlt2 : i < items2.size := by omega
    have ht := turn hlt hlt2
    obtain ⟨hp, g, d, tk, os⟩ := s
    wp_walk using wpAny_loadPart' hl1, wpAny_loadPart' hb1
    have hi1 : items[((i : Nat) : Int).toNat]? = some items[i] := by simp [hlt]
    have hi2 : items2[((i : Nat) : Int).toNat]? = some items2[i] := by simp [hlt2]
    have hc : ((i : Int) + 1) = ((i + 1 : Nat) : Int) := by omega
    rw [hi1, hi2]
    refine wpAny_bind (wpAny_mono ht (fun r s2 h2 => ?_) fun _ _ x => x)
    cases r with
    | true =>
      rw [if_pos rfl] at h2
      have hrec := ih (i + 1) (by omega) (by omega) s2 h2
      obtain ⟨hp2, g2, d2, tk2, os2⟩ := s2
      wp_walk
      rw [hc]
      exact ⟨plainId_quiet plain_eq_loop _, codeAny_builtin entry_eq_loop (by
        rw [Around.under_plainId plain_eq_loop _]
        exact hrec)⟩
    | false =>
      rw [if_neg (by decide)] at h2
      obtain ⟨hJ, its, its2, m, m2, hl2, hb2, ks1, ks2⟩ := h2
      have hR := dif s2 hJ
      obtain ⟨hp2, g2, d2, tk2, os2⟩ := s2
      wp_walk using wpAny_loadPart' hl2, wpAny_loadPart' hb2
      have kt : i < its.size := by omega
      have kt2 : i < its2.size := by omega
      have k1 : its[((i : Nat) : Int).toNat]? = some its[i] := by simp [kt]
      have k2 : its2[((i : Nat) : Int).toNat]? = some its2[i] := by simp [kt2]
      rw [k1, k2]
      wp_walk
      exact hR
theorem list_eqB (l b : Addr) (N : Nat) (I : Nat → Shared → Prop) (J : Shared → Prop) (hl : ListJ prog w A (fun e s' => R (.error e) s') l b N I J)
    (fin : ∀ s, I N s → R (.ok (.ret (.bool true))) s) (dif : ∀ s, J s → R (.ok (.ret (.bool false))) s) {s : Shared} (h : I 0 s) :
    wpAny (model prog w) A.in1 (Builtin.«list.__eq__» ⟨[.ref l, .ref b], []⟩) (FinOf prog w A R) (fun e s' => R (.error e) s') s := by
  obtain ⟨items, items2, ⟨n, n2, hl1, hb1, hs1, hs2⟩, _⟩ := hl _ _ h
  have hrec := eq_loopB (A := A) (R := R) l b N I J hl fin dif _ 0 rfl (Nat.zero_le _) s h
  obtain ⟨hp, g, d, tk, os⟩ := s
  have f3 := AutoSeq1.sub_list_list
  have hne : ¬ (items.size != items2.size) = true := by simp [hs1, hs2]
  wp_walk using wpAny_loadPart' hl1, wpAny_loadPart' hb1
  exact ⟨plainId_quiet plain_eq_loop _, codeAny_builtin entry_eq_loop (by
    rw [Around.under_plainId plain_eq_loop _]
    exact hrec)⟩
theorem tuple_eqB (l b : Addr) (items items2 : Array Value) (n n2 : Nat) (dd dd2 : Option Addr) (sl sl2 : Array (Option Value)) (I : Nat → Shared → Prop) (J : Shared → Prop)
    (turn : ∀ i (h1 : i < items.size) (h2 : i < items2.size) s, I i s → wpAny (model prog w) A.in1 (eqBool items[i] items2[i]) (fun r s' => if r = true then I (i + 1) s' else J s') (fun e s' => R (.error e) s') s)
    (fin : ∀ s, I (min items.size items2.size) s → R (.ok (.ret (.bool (items.size == items2.size)))) s) (dif : ∀ s, J s → R (.ok (.ret (.bool false))) s) {s : Shared} (hl1 : s.heap.get? l = some { cls := .type "tuple", dict := dd, data := .seq items n, slots := sl }) (hb1 : s.heap.get? b = some { cls := .type "tuple", dict := dd2, data := .seq items2 n2, slots := sl2 }) (h : I 0 s) :
    wpAny (model prog w) A.in1 (Builtin.«tuple.__eq__» ⟨[.ref l, .ref b], []⟩) (FinOf prog w A R) (fun e s' => R (.error e) s') s := by
  have f2 := AutoSeq1.sub_tuple_tuple
  have hZ : (items.toList.zip items2.toList).length = min items.size items2.size := by simp
  have h0 := h
  obtain ⟨hp, g, d, tk, os⟩ := s
  wp_walk using wpAny_loadPart' hl1, wpAny_loadPart' hb1, wpAny_forIn_list _ (fun rest b s' => b.1 = none ∧ ∃ i, rest = (items.toList.zip items2.toList).drop i ∧ i ≤ min items.size items2.size ∧ I i s') _
  case turn =>
    rintro ⟨y, x⟩ rest b s' ⟨hb', i, hz, hi, hI⟩
    have hlt : i < (items.toList.zip items2.toList).length := by
      rcases Nat.lt_or_ge i (items.toList.zip items2.toList).length with h' | h'
      · exact h'
      · rw [List.drop_of_length_le h'] at hz; cases hz
    have hm : i < min items.size items2.size := hZ ▸ hlt
    have h1 : i < items.size := Nat.lt_of_lt_of_le hm (Nat.min_le_left _ _)
    have h2 : i < items2.size := Nat.lt_of_lt_of_le hm (Nat.min_le_right _ _)
    rw [List.drop_eq_getElem_cons hlt] at hz
    injection hz with hyx hrest
    have hy : y = items[i] := by have := congrArg Prod.fst hyx; simpa using this
    have hx : x = items2[i] := by have := congrArg Prod.snd hyx; simpa using this
    subst hy hx
    refine wpAny_bind (wpAny_mono (turn i h1 h2 s' hI) (fun r s2 q2 => ?_) fun _ _ x => x)
    cases r with
    | true =>
      rw [if_pos rfl] at q2
      wp_walk
      exact ⟨rfl, i + 1, hrest, hm, q2⟩
    | false =>
      rw [if_neg (by decide)] at q2
      have hR := dif s2 q2
      wp_walk
      exact hR
  case fin =>
    rintro ⟨b1, b2⟩ s' ⟨hb', i, hz, hi, hI⟩
    simp only at hb'
    subst hb'
    have hge : min items.size items2.size ≤ i := by
      rcases Nat.lt_or_ge i (items.toList.zip items2.toList).length with h' | h'
      · rw [List.drop_eq_getElem_cons h'] at hz; cases hz
      · exact hZ ▸ h'
    have hi' : i = min items.size items2.size := by omega
    have hR : R (.ok (.ret (.bool (items.size == items2.size)))) s' := fin s' (hi' ▸ hI)
    wp_walk
    simpa [Builtin.Tuple.tupleCompareSizes, bne] using hR
  case h =>
    exact ⟨rfl, 0, rfl, Nat.zero_le _, h0⟩
theorem ne_loopB (l b : Addr) (N : Nat) (I : Nat → Shared → Prop) (J : Shared → Prop) (hl : ListJ prog w A (fun e s' => R (.error e) s') l b N I J)
    (fin : ∀ s, I N s → R (.ok (.ret (.bool false))) s) (dif : ∀ s, J s → R (.ok (.ret (.bool true))) s) (k : Nat) :
    ∀ i : Nat, N - i = k → i ≤ N → ∀ s, I i s →
      wpAny (model prog w) A.in1 (Builtin.«list.__eq__.loop» ⟨[.ref l, .ref b, rawInt i, rawInt 3], []⟩) (FinOf prog w A R) (fun e s' => R (.error e) s') s := by
  induction k with
  | zero =>
    intro i hk hi s h
    obtain ⟨items, items2, ⟨n, n2, hl1, hb1, hs1, hs2⟩, _⟩ := hl _ _ h
    have hi' : i = N := by omega
    have hR : R (.ok (.ret (.bool false))) s := fin s (hi' ▸ h)
    obtain ⟨hp, g, d, tk, os⟩ := s
    wp_walk using wpAny_loadPart' hl1, wpAny_loadPart' hb1
    have hi1 : items[((i : Nat) : Int).toNat]? = none := by simp; omega
    have hi2 : items2[((i : Nat) : Int).toNat]? = none := by simp; omega
    rw [hi1, hi2]
    wp_walk using wpAny_loadPart' hl1, wpAny_loadPart' hb1
    show R (.ok (.ret (.bool (items.size != items2.size)))) _
    rw [hs1, hs2]
    simpa using hR
  | succ k ih =>
    intro i hk hi s h
    obtain ⟨items, items2, ⟨n, n2, hl1, hb1, hs1, hs2⟩, turn⟩ := hl _ _ h
    have hlt : i < items.size := by omega
    have hlt2 : i < items2.size := by omega
    have ht := turn hlt hlt2
    obtain ⟨hp, g, d, tk, os⟩ := s
    wp_walk using wpAny_loadPart' hl1, wpAny_loadPart' hb1
    have hi1 : items[((i : Nat) : Int).toNat]? = some items[i] := by simp [hlt]
    have hi2 : items2[((i : Nat) : Int).toNat]? = some items2[i] := by simp [hlt2]
    have hc : ((i : Int) + 1) = ((i + 1 : Nat) : Int) := by omega
    rw [hi1, hi2]
    refine wpAny_bind (wpAny_mono ht (fun r s2 h2 => ?_) fun _ _ x => x)
    cases r with
    | true =>
      rw [if_pos rfl] at h2
      have hrec := ih (i + 1) (by omega) (by omega) s2 h2
      obtain ⟨hp2, g2, d2, tk2, os2⟩ := s2
      wp_walk
      rw [hc]
      exact ⟨plainId_quiet plain_eq_loop _, codeAny_builtin entry_eq_loop (by
        rw [Around.under_plainId plain_eq_loop _]
        exact hrec)⟩
    | false =>
      rw [if_neg (by decide)] at h2
      obtain ⟨hJ, its, its2, m, m2, hl2, hb2, ks1, ks2⟩ := h2
      have hR := dif s2 hJ
      obtain ⟨hp2, g2, d2, tk2, os2⟩ := s2
      wp_walk using wpAny_loadPart' hl2, wpAny_loadPart' hb2
      have kt : i < its.size := by omega
      have kt2 : i < its2.size := by omega
      have k1 : its[((i : Nat) : Int).toNat]? = some its[i] := by simp [kt]
      have k2 : its2[((i : Nat) : Int).toNat]? = some its2[i] := by simp [kt2]
      rw [k1, k2]
      wp_walk
      exact hR
theorem list_neB (l b : Addr) (N : Nat) (I : Nat → Shared → Prop) (J : Shared → Prop) (hl : ListJ prog w A (fun e s' => R (.error e) s') l b N I J)
    (fin : ∀ s, I N s → R (.ok (.ret (.bool false))) s) (dif : ∀ s, J s → R (.ok (.ret (.bool true))) s) {s : Shared} (h : I 0 s) :
    wpAny (model prog w) A.in1 (Builtin.«list.__ne__» ⟨[.ref l, .ref b], []⟩) (FinOf prog w A R) (fun e s' => R (.error e) s') s := by
  obtain ⟨items, items2, ⟨n, n2, hl1, hb1, hs1, hs2⟩, _⟩ := hl _ _ h
  have hrec := ne_loopB (A := A) (R := R) l b N I J hl fin dif _ 0 rfl (Nat.zero_le _) s h
  obtain ⟨hp, g, d, tk, os⟩ := s
  have f3 := AutoSeq1.sub_list_list
  have hne : ¬ (items.size != items2.size) = true := by simp [hs1, hs2]
  wp_walk using wpAny_loadPart' hl1, wpAny_loadPart' hb1
  exact ⟨plainId_quiet plain_eq_loop _, codeAny_builtin entry_eq_loop (by
    rw [Around.under_plainId plain_eq_loop _]
    exact hrec)⟩
theorem tuple_neB (l b : Addr) (items items2 : Array Value) (n n2 : Nat) (dd dd2 : Option Addr) (sl sl2 : Array (Option Value)) (I : Nat → Shared → Prop) (J : Shared → Prop)
    (turn : ∀ i (h1 : i < items.size) (h2 : i < items2.size) s, I i s → wpAny (model prog w) A.in1 (eqBool items[i] items2[i]) (fun r s' => if r = true then I (i + 1) s' else J s') (fun e s' => R (.error e) s') s)
    (fin : ∀ s, I (min items.size items2.size) s → R (.ok (.ret (.bool (items.size != items2.size)))) s) (dif : ∀ s, J s → R (.ok (.ret (.bool true))) s) {s : Shared} (hl1 : s.heap.get? l = some { cls := .type "tuple", dict := dd, data := .seq items n, slots := sl }) (hb1 : s.heap.get? b = some { cls := .type "tuple", dict := dd2, data := .seq items2 n2, slots := sl2 }) (h : I 0 s) :
    wpAny (model prog w) A.in1 (Builtin.«tuple.__ne__» ⟨[.ref l, .ref b], []⟩) (FinOf prog w A R) (fun e s' => R (.error e) s') s := by
  have f2 := AutoSeq1.sub_tuple_tuple
  have hZ : (items.toList.zip items2.toList).length = min items.size items2.size := by simp
  have h0 := h
  obtain ⟨hp, g, d, tk, os⟩ := s
  wp_walk using wpAny_loadPart' hl1, wpAny_loadPart' hb1, wpAny_forIn_list _ (fun rest b s' => b.1 = none ∧ ∃ i, rest = (items.toList.zip items2.toList).drop i ∧ i ≤ min items.size items2.size ∧ I i s') _
  case turn =>
    rintro ⟨y, x⟩ rest b s' ⟨hb', i, hz, hi, hI⟩
    have hlt : i < (items.toList.zip items2.toList).length := by
      rcases Nat.lt_or_ge i (items.toList.zip items2.toList).length with h' | h'
      · exact h'
      · rw [List.drop_of_length_le h'] at hz; cases hz
    have hm : i < min items.size items2.size := hZ ▸ hlt
    have h1 : i < items.size := Nat.lt_of_lt_of_le hm (Nat.min_le_left _ _)
    have h2 : i < items2.size := Nat.lt_of_lt_of_le hm (Nat.min_le_right _ _)
    rw [List.drop_eq_getElem_cons hlt] at hz
    injection hz with hyx hrest
    have hy : y = items[i] := by have := congrArg Prod.fst hyx; simpa using this
    have hx : x = items2[i] := by have := congrArg Prod.snd hyx; simpa using this
    subst hy hx
    refine wpAny_bind (wpAny_mono (turn i h1 h2 s' hI) (fun r s2 q2 => ?_) fun _ _ x => x)
    cases r with
    | true =>
      rw [if_pos rfl] at q2
      wp_walk
      exact ⟨rfl, i + 1, hrest, hm, q2⟩
    | false =>
      rw [if_neg (by decide)] at q2
      have hR := dif s2 q2
      wp_walk
      exact hR
  case fin =>
    rintro ⟨b1, b2⟩ s' ⟨hb', i, hz, hi, hI⟩
    simp only at hb'
    subst hb'
    have hge : min items.size items2.size ≤ i := by
      rcases Nat.lt_or_ge i (items.toList.zip items2.toList).length with h' | h'
      · rw [List.drop_eq_getElem_cons h'] at hz; cases hz
      · exact hZ ▸ h'
    have hi' : i = min items.size items2.size := by omega
    have hR : R (.ok (.ret (.bool (items.size != items2.size)))) s' := fin s' (hi' ▸ hI)
    wp_walk
    simpa [Builtin.Tuple.tupleCompareSizes, bne] using hR
  case h =>
    exact ⟨rfl, 0, rfl, Nat.zero_le _, h0⟩
end
section
variable {prog : Program} {w : World} {A : Around} {E : Value → Shared → Prop} {s : Shared}
theorem rc_list_eqB {l b : Addr} {N : Nat} {Q : Value → Shared → Prop} (hu : A.units < cLine) (I : Nat → Shared → Prop) (J : Shared → Prop) (hl : ListJ prog w A E l b N I J)
    (fin : ∀ s, I N s → Q (.bool true) s) (dif : ∀ s, J s → Q (.bool false) s) (h : I 0 s) : wpAny (model prog w) A (richCompare .Eq (.ref l) (.ref b)) Q E s := by
  obtain ⟨items, items2, ⟨n, n2, hl1, hb1, _, _⟩, _⟩ := hl _ _ h
  refine wpAny_richCompare_same_room (op := .Eq) ⟨_, hl1, rfl⟩ ⟨_, hb1, rfl⟩ F.slot_list_eq (call_here F.slot_list_eq ⟨_, hl1, rfl⟩ F.entry_list_eq (F.args_list_eq_2 _ _) ?_) hu
  exact list_eqB (R := wants (fun v s' => v ≠ .notImplemented ∧ Q v s') E) l b N I J hl (fun s' q => ⟨(fun x => nomatch x), fin s' q⟩) (fun s' q => ⟨(fun x => nomatch x), dif s' q⟩) h
theorem rc_tup_eqB {l b : Addr} {items items2 : Array Value} {Q : Value → Shared → Prop} (hu : A.units < cLine) (I : Nat → Shared → Prop) (J : Shared → Prop)
    (hl : s.heap.IsTuple l items) (hb : s.heap.IsTuple b items2)
    (turn : ∀ i (h1 : i < items.size) (h2 : i < items2.size) s, I i s → wpAny (model prog w) A.in1 (eqBool items[i] items2[i]) (fun r s' => if r = true then I (i + 1) s' else J s') E s)
    (fin : ∀ s, I (min items.size items2.size) s → Q (.bool (items.size == items2.size)) s) (dif : ∀ s, J s → Q (.bool false) s) (h : I 0 s) : wpAny (model prog w) A (richCompare .Eq (.ref l) (.ref b)) Q E s := by
  obtain ⟨⟨cls, dd, data, sl⟩, ho, hc, n, hd⟩ := id hl
  obtain ⟨⟨cls2, dd2, data2, sl2⟩, ho2, hc2, n2, hd2⟩ := id hb
  simp only at hc hd hc2 hd2
  subst hc hd hc2 hd2
  refine wpAny_richCompare_same_room (op := .Eq) ⟨_, ho, rfl⟩ ⟨_, ho2, rfl⟩ F.slot_tuple_eq (call_here F.slot_tuple_eq ⟨_, ho, rfl⟩ F.entry_tuple_eq (F.args_tuple_eq_2 _ _) ?_) hu
  exact tuple_eqB (R := wants (fun v s' => v ≠ .notImplemented ∧ Q v s') E) l b items items2 n n2 dd dd2 sl sl2 I J turn (fun s' q => ⟨(fun x => nomatch x), fin s' q⟩) (fun s' q => ⟨(fun x => nomatch x), dif s' q⟩) ho ho2 h
theorem rc_list_neB {l b : Addr} {N : Nat} {Q : Value → Shared → Prop} (hu : A.units < cLine) (I : Nat → Shared → Prop) (J : Shared → Prop) (hl : ListJ prog w A E l b N I J)
    (fin : ∀ s, I N s → Q (.bool false) s) (dif : ∀ s, J s → Q (.bool true) s) (h : I 0 s) : wpAny (model prog w) A (richCompare .NotEq (.ref l) (.ref b)) Q E s := by
  obtain ⟨items, items2, ⟨n, n2, hl1, hb1, _, _⟩, _⟩ := hl _ _ h
  refine wpAny_richCompare_same_room (op := .NotEq) ⟨_, hl1, rfl⟩ ⟨_, hb1, rfl⟩ F.slot_list_ne (call_here F.slot_list_ne ⟨_, hl1, rfl⟩ F.entry_list_ne (F.args_list_ne_2 _ _) ?_) hu
  exact list_neB (R := wants (fun v s' => v ≠ .notImplemented ∧ Q v s') E) l b N I J hl (fun s' q => ⟨(fun x => nomatch x), fin s' q⟩) (fun s' q => ⟨(fun x => nomatch x), dif s' q⟩) h
theorem rc_tup_neB {l b : Addr} {items items2 : Array Value} {Q : Value → Shared → Prop} (hu : A.units < cLine) (I : Nat → Shared → Prop) (J : Shared → Prop)
    (hl : s.heap.IsTuple l items) (hb : s.heap.IsTuple b items2)
    (turn : ∀ i (h1 : i < items.size) (h2 : i < items2.size) s, I i s → wpAny (model prog w) A.in1 (eqBool items[i] items2[i]) (fun r s' => if r = true then I (i + 1) s' else J s') E s)
    (fin : ∀ s, I (min items.size items2.size) s → Q (.bool (items.size != items2.size)) s) (dif : ∀ s, J s → Q (.bool true) s) (h : I 0 s) : wpAny (model prog w) A (richCompare .NotEq (.ref l) (.ref b)) Q E s := by
  obtain ⟨⟨cls, dd, data, sl⟩, ho, hc, n, hd⟩ := id hl
  obtain ⟨⟨cls2, dd2, data2, sl2⟩, ho2, hc2, n2, hd2⟩ := id hb
  simp only at hc hd hc2 hd2
  subst hc hd hc2 hd2
  refine wpAny_richCompare_same_room (op := .NotEq) ⟨_, ho, rfl⟩ ⟨_, ho2, rfl⟩ F.slot_tuple_ne (call_here F.slot_tuple_ne ⟨_, ho, rfl⟩ F.entry_tuple_ne (F.args_tuple_ne_2 _ _) ?_) hu
  exact tuple_neB (R := wants (fun v s' => v ≠ .notImplemented ∧ Q v s') E) l b items items2 n n2 dd dd2 sl sl2 I J turn (fun s' q => ⟨(fun x => nomatch x), fin s' q⟩) (fun s' q => ⟨(fun x => nomatch x), dif s' q⟩) ho ho2 h
end
end GQ2
end L3

set_option maxRecDepth 100000
set_option maxHeartbeats 2000000
/-! L4b: the program's static part, the small language, its meaning on data. -/
namespace L3
open PySem PySem.Spec PyProof.Rows L2

/-! ### types of data -/
inductive Ty where
  | b (n : String) | c (n : Nat)
  deriving DecidableEq

/-! ### the small language -/
/-- methods of lists and texts -/
inductive BM where
  | append | insert | startswith | partition | join | split
  deriving DecidableEq
/-- built-in calls -/
inductive BI where
  | isinstance | len | abs | int | tuple | list | listC | str | all
  deriving DecidableEq
mutual
inductive JE where
  | var (i : Nat) | int (i : Int) | bl (b : Bool) | str (x : Str) | non
  | glo (n : Nat)
  | bin (o : Operator) (a b : JE) | un (o : UnaryOp) (a : JE) | cmp (o : CmpOp) (a b : JE) | cmp2 (o p : CmpOp) (a b c : JE)
  | and (a b : JE) | or (a b : JE) | not (a : JE) | ite (c : JT) (a b : JE)
  | tup (es : JA) | lst (es : JA) | lstC (es : JA)
  | call (f : Nat) (es : JA) | callK (s : Nat) (es : JA) (ks : JA)
  | mk (c : Nat) (es : JA) | mkC (c : Nat) (es : JA) | mkK (s : Nat) (c : Nat) (es : JA) (ks : JA)
  | meth (m : Str) (o : JE) (es : JA)
  | attr (x : Str) (o : JE)
  | ix (a b : JE)
  | bi (b : BI) (es : JA)
  | sl (c : Bool) (a : JE) (lo hi : JO)
  | fz (a : JE)
  | eFld (i : Nat) (x : Str) | eIs (i : Nat) (t : XC)
  | comp (own : List (Str × Nat)) (t : Tg) (it : JI) (c : JC) (e : JE)
  | bm (m : BM) (o : JE) (es : JA) | dnew
inductive JA where
  | nil | cons (e : JE) (r : JA)
inductive JO where
  | none | some (e : JE)
inductive JT where
  | val (e : JE) | and (a b : JT) | or (a b : JT) | not (a : JT)
inductive JC where
  | none | some (t : JT)
inductive JI where
  | seq (e : JE) | txt (e : JE) | range1 (e : JE) | range2 (a b : JE) | enum (e : JE) | zip (a b : JE)
end
mutual
inductive JS where
  | set (i : Nat) (e : JE) | par (i j : Nat) (a b : JE) | unp (is : List Nat) (e : JE)
  | ret (e : JE) | retN | drop (e : JE) | ife (c : JT) (a b : JB) | wh (c : JT) (b : JB) | fr (t : Tg) (it : JI) (b : JB)
  | brk | ct | pass | never
  | setIx (o i e : JE) | setAttr (x : Str) (o e : JE)
  | raise (c : Nat) (es : JA) | raise0 (c : Nat) | aug (i : Nat) (o : Operator) (e : JE) | tryA (b : JB) (c : XC) (i : Nat) (h : JB) | tryO (b : JB) (c : XC) (h : JB)
inductive JB where
  | nil | cons (s : JS) (r : JB)
end

/-! ### the program's static part -/
inductive Src where
  | p (i : Nat) | k (i : Nat) | d (i : Nat)
/-- one def -/
structure Fd where
  d : He.DefD
  N : List Str
  ps : List Str
  dds : List D := []
  body : JB
  fz : Bool := true
  st : Bool := false
/-- one class: its name, its fields in the order of their first store, its methods -/
structure Cd where
  nm : Str
  fl : List Str
  mt : List (Str × Nat)
  pl : Bool := true
  ops : Bool := false
  xf : List Str := []
  xi : Option Nat := none
  ups : List Nat := []
  bup : List String := []
  x0 : Bool := false
  sm : List (Str × Nat) := []
/-- one shape of a call with fewer values or with keywords -/
structure Sh where
  f : Nat
  n : Nat
  ks : List Str
  src : List Src
structure Sig where
  fs : List Fd
  cs : List Cd
  sh : List Sh := []
  ks : List (Str × D) := []
  free : List Str := []
  xt : List XC := []

/-- may be raised -/
def Cd.exc (ci : Cd) : Bool := !ci.bup.isEmpty
/-- is every exception of the class t one of the class u -/
def Sig.xsub (S : Sig) (t u : XC) : Option Bool := match t with
  | .own c => (match S.cs[c]? with
    | some ci => if ci.exc = true then (if S.xt.contains u = true then some (match u with
      | .own c' => ci.ups.contains c'
      | .ty n => ci.bup.contains n) else none) else none
    | none => none)
  | .ty _ => none
def Sig.xfN (S : Sig) (c : Nat) : List Str := match S.cs[c]? with
  | some ci => ci.xf
  | none => []
/-- an exception without fields -/
def Sig.x0 (S : Sig) (c : Nat) : Bool := match S.cs[c]? with
  | some ci => ci.exc && ci.x0
  | none => false
/-- its __init__ stores its values as its fields -/
def Sig.xin (S : Sig) (c : Nat) : Option Nat := match S.cs[c]? with
  | some ci => if ci.exc = true then ci.xi else none
  | none => none
def Sig.mi (S : Sig) (c : Nat) (m : Str) : Option Nat := match S.cs[c]? with
  | some ci => ci.mt.lookup m
  | none => none
def Sig.fld (S : Sig) (c : Nat) (x : Str) : Option Nat := match S.cs[c]? with
  | some ci => ci.fl.findIdx? (· == x)
  | none => none

/-- a static method of a class -/
def Sig.sm (S : Sig) (c : Nat) (m : Str) : Option Nat := match S.cs[c]? with
  | some ci => ci.sm.lookup m
  | none => none
noncomputable section
variable (S : Sig) (run : Nat → List D → PM D)
/-! ### operations on data -/
def intB (o : Operator) (i j : Int) (μ : Mu) : Res D := match o with
  | .Add => .ok (.int (i + j)) μ
  | .Sub => .ok (.int (i - j)) μ
  | .Mult => if mulOk i j = true then .ok (.int (i * j)) μ else .stuck
  | .FloorDiv => if divOk i j = true then .ok (.int (i.fdiv j)) μ else .stuck
  | .Mod => if decide (j ≠ 0) = true then .ok (.int (i.fmod j)) μ else .stuck
  | .Pow => if powOk i j = true then .ok (.int (i ^ j.toNat)) μ else .stuck
  | _ => .stuck
/-- the operators whose int method is known to decline an instance -/
def revOk (o : Operator) : Bool := match o with
  | .Add | .Sub | .Mult | .Mod | .FloorDiv => true
  | _ => false
def mrun (c : Nat) (m : Str) (ds : List D) (μ : Mu) : Res D := match S.mi c m with
  | some f => run f ds μ
  | none => .stuck
def hasOps (c : Nat) : Bool := match S.cs[c]? with
  | some ci => ci.ops
  | none => false
def binIO (o : Operator) (i : Int) (y : D) (μ : Mu) : Res D := match insOf y μ with
  | some (c, _) => if (hasOps S c && revOk o) = true then (if (S.mi c (PySem.dunder o.info.2)).isSome = true then mrun S run c (dunderR o.info.2) [y, .int i] μ else .stuck) else .stuck
  | none => .stuck
def binOI (o : Operator) (x : D) (j : Int) (μ : Mu) : Res D := match insOf x μ with
  | some (c, _) => if hasOps S c = true then mrun S run c (PySem.dunder o.info.2) [x, .int j] μ else .stuck
  | none => .stuck
def seqOf (d : D) (μ : Mu) : Option (List D) := match d with
  | .tup ds => some ds
  | .lst ds => some ds
  | .klst ds => some ds
  | .cell i => (match μ[i]? with
    | some (.lst ds) => some ds
    | _ => none)
  | _ => none
/-- a list that is not of the module -/
def isHL : D → Bool
  | .lst _ => true
  | .cell _ => true
  | _ => false
def catL (x y : D) (μ : Mu) : Res D := if (isHL x && isHL y) = true then (match seqOf x μ, seqOf y μ with
  | some as, some bs => if as.length + bs.length ≤ 1000000 then .ok (.cell μ.length) (μ ++ [.lst (as ++ bs)]) else .stuck
  | _, _ => .stuck) else .stuck
def catS (o : Operator) (x y : D) (μ : Mu) : Res D := match o with
  | .Add => (match x, y with
    | .str a, .str b => if a.length + b.length ≤ 1000000 then .ok (.str (a ++ b)) μ else .stuck
    | .tup as, .tup bs => if (!as.isEmpty && decide (as.length + bs.length ≤ 1000000)) = true then .ok (.tup (as ++ bs)) μ else .stuck
    | x, y => catL x y μ)
  | _ => .stuck
def binOO (o : Operator) (x y : D) (μ : Mu) : Res D := match insOf x μ with
  | some (c, _) => if hasOps S c = true then (match insOf y μ with
    | some (c', _) => if c' = c then mrun S run c (PySem.dunder o.info.2) [x, y] μ else .stuck
    | none => .stuck) else .stuck
  | none => catS o x y μ
def binS (o : Operator) (x y : D) (μ : Mu) : Res D := match x, y with
  | .int i, .int j => intB o i j μ
  | .int i, y => binIO S run o i y μ
  | x, .int j => binOI S run o x j μ
  | x, y => binOO S run o x y μ
def unS (o : UnaryOp) (x : D) (μ : Mu) : Res D := match o, x with
  | .USub, .int i => .ok (.int (-i)) μ
  | .USub, x => (match insOf x μ with
    | some (c, _) => mrun S run c "__neg__" [x] μ
    | none => .stuck)
  | .UAdd, x => (match insOf x μ with
    | some (c, _) => mrun S run c "__pos__" [x] μ
    | none => .stuck)
  | _, _ => .stuck
def isIntD : D → Bool
  | .int _ => true
  | _ => false
def intC (o : CmpOp) (i j : Int) (μ : Mu) : Res D := match o with
  | .Lt => .ok (.bl (decide (i < j))) μ
  | .LtE => .ok (.bl (decide (i ≤ j))) μ
  | .Gt => .ok (.bl (decide (j < i))) μ
  | .GtE => .ok (.bl (decide (j ≤ i))) μ
  | .Eq => .ok (.bl (decide (i = j))) μ
  | .NotEq => .ok (.bl (!decide (i = j))) μ
  | _ => .stuck
def cmpDun (o : CmpOp) : Option Str := match o with
  | .Lt => some "__lt__" | .LtE => some "__le__" | .Gt => some "__gt__" | .GtE => some "__ge__" | .Eq => some "__eq__"
  | _ => none
def cmpOwn (c : Nat) (m : Str) (x y : D) (μ : Mu) : Res D := if hasOps S c = true then (match y with
  | .int j => mrun S run c m [x, .int j] μ
  | y => (match insOf y μ with
    | some (c', _) => if c' = c then mrun S run c m [x, y] μ else .stuck
    | none => .stuck)) else .stuck
def flatD : D → Bool
  | .non => true
  | .bl _ => true
  | .int _ => true
  | .str _ => true
  | _ => false
/-- == of flat values -/
def eqF : D → D → Bool
  | .non, .non => true
  | .bl a, .bl b => a == b
  | .bl a, .int b => (if a then 1 else 0) == b
  | .int a, .bl b => a == (if b then 1 else 0)
  | .int a, .int b => a == b
  | .str a, .str b => a == b
  | _, _ => false
/-! == item by item, by the items' own == -/
def sameF : D → D → Bool
  | .non, .non => true
  | .bl a, .bl b => a == b
  | .int a, .int b => a == b
  | .str a, .str b => a == b
  | _, _ => false
def sameFs : List D → List D → Bool
  | [], [] => true
  | a :: as, b :: bs => sameF a b && sameFs as bs
  | _, _ => false
/-- two flat values | two objects of one class with flat fields: its __eq__ -/
noncomputable def eqI (x y : D) (μ : Mu) : Option Bool := match insOf x μ, insOf y μ with
  | some (c, fs), some (c', gs) => if c' = c ∧ (fs.all flatD && gs.all flatD) = true then (match mrun S run c "__eq__" [x, y] μ with
    | .ok (.bl b) μ' => open Classical in if μ' = μ ∧ (!sameFs fs gs || b) = true then some b else none
    | _ => none) else none
  | none, none => if (flatD x && flatD y) = true then some (eqF x y) else none
  | _, _ => none
def eqSeq (el : D → D → Option Bool) : List D → List D → Option Bool
  | x :: xs, y :: ys => match el x y with
    | some true => eqSeq el xs ys
    | some false => some false
    | none => none
  | [], [] => some true
  | _, _ => some false
/-- a tuple | a list -/
def sqK (x : D) (μ : Mu) : Option (Bool × List D) := match x with
  | .tup ds => some (true, ds)
  | .lst ds => some (false, ds)
  | .cell i => (match μ[i]? with
    | some (.lst ds) => some (false, ds)
    | _ => none)
  | _ => none
/-- == of two sequences by == of their items -/
def eqK (el : D → D → Option Bool) (x y : D) (μ : Mu) : Option Bool := match sqK x μ, sqK y μ with
  | some (true, as), some (true, bs) => eqSeq el as bs
  | some (false, as), some (false, bs) => if as.length = bs.length then eqSeq el as bs else some false
  | _, _ => none
noncomputable def eqE : Nat → D → D → Mu → Option Bool
  | 0, x, y, μ => eqI S run x y μ
  | n + 1, x, y, μ => match sqK x μ, sqK y μ with
    | none, none => eqI S run x y μ
    | _, _ => eqK (fun x y => eqE n x y μ) x y μ
noncomputable def eqQ (neg : Bool) (x y : D) (μ : Mu) : Res D := match eqK (fun x y => eqE S run 1 x y μ) x y μ with
  | some b => .ok (.bl (neg != b)) μ
  | none => .stuck
/-! == of nested lists and tuples of plain data -/
mutual
def pyD : D → Option PyData
  | .non => some .none
  | .bl b => some (.bool b)
  | .int i => some (.int i)
  | .str x => some (.str x)
  | .tup ds => (pyDs ds).map .tuple
  | .lst ds => (pyDs ds).map .list
  | .klst ds => (pyDs ds).map .list
  | _ => none
def pyDs : List D → Option (List PyData)
  | [] => some []
  | d :: ds => match pyD d, pyDs ds with
    | some p, some ps => some (p :: ps)
    | _, _ => none
end
def pyC (μ : Mu) : D → Option PyData
  | .cell i => (match μ[i]? with
    | some (.lst ds) => (pyDs ds).map .list
    | _ => none)
  | d => pyD d
noncomputable def eqP (neg : Bool) (x y : D) (μ : Mu) : Res D := match pyC μ x, pyC μ y with
  | some p, some q => if (SeqAt.shaped p && SeqAt.shaped q) = true then .ok (.bl (neg != PyData.eqv p q)) μ else .stuck
  | _, _ => eqQ S run neg x y μ
def isSeqD : D → Bool
  | .tup _ => true
  | .lst _ => true
  | .klst _ => true
  | .cell _ => true
  | _ => false
noncomputable def eqX (neg : Bool) (x y : D) (μ : Mu) : Res D := if (isSeqD x || isSeqD y) = true then eqP S run neg x y μ else eqS neg x y μ
noncomputable def eqO (o : CmpOp) (x y : D) (μ : Mu) : Res D := match o with
  | .Eq => eqX S run false x y μ
  | .NotEq => eqX S run true x y μ
  | _ => .stuck
/-- int o instance: the instance's mirrored method -/
def cmpRev (o : CmpOp) : Option Str := match o with
  | .Lt => some "__gt__" | .LtE => some "__ge__" | .Gt => some "__lt__" | .GtE => some "__le__" | .Eq => some "__eq__"
  | _ => none
def cmpIO (o : CmpOp) (i : Int) (y : D) (c : Nat) (μ : Mu) : Res D := match cmpRev o with
  | some m => if hasOps S c = true then mrun S run c m [y, .int i] μ else .stuck
  | none => .stuck
noncomputable def cmpB (o : CmpOp) (x y : D) (μ : Mu) : Res D := match x, y with
  | .int i, .int j => intC o i j μ
  | .int i, y => (match insOf y μ with
    | some (c, _) => cmpIO S run o i y c μ
    | none => eqO S run o (.int i) y μ)
  | x, y => eqO S run o x y μ
def inD (x : D) (ds : List D) : Bool := ds.any fun y => eqF y x
/-- a text of one sign -/
def signOf (x : Str) : Option Nat := match x.cps.toList with
  | [c] => some c
  | _ => none
def inT (neg : Bool) (x y : D) (μ : Mu) : Res D := match x, y with
  | .str a, .str z => (match signOf a with
    | some c => .ok (.bl (neg != decide (c ∈ z.cps.toList))) μ
    | none => .stuck)
  | _, _ => .stuck
def inS (neg : Bool) (x y : D) (μ : Mu) : Res D := match seqOf y μ with
  | some ds => if (flatD x && ds.all flatD) = true then .ok (.bl (neg != inD x ds)) μ else .stuck
  | none => inT neg x y μ
def cmpS (o : CmpOp) (x y : D) (μ : Mu) : Res D := match o with
  | .Is => isN false x y μ
  | .IsNot => isN true x y μ
  | .In => inS false x y μ
  | .NotIn => inS true x y μ
  | o => (match insOf x μ with
    | some (c, _) => (match cmpDun o with
      | some m => cmpOwn S run c m x y μ
      | none => .stuck)
    | none => cmpB S run o x y μ)
/-! isinstance -/
def tyD (d : D) (μ : Mu) : Option Ty := match d with
  | .non => some (.b "NoneType")
  | .bl _ => some (.b "bool")
  | .int _ => some (.b "int")
  | .str _ => some (.b "str")
  | .tup _ => some (.b "tuple")
  | .lst _ => some (.b "list")
  | .klst _ => some (.b "list")
  | .ins c _ => some (.c c)
  | .cell i => (match μ[i]? with
    | some (.lst _) => some (.b "list")
    | some (.dct _) => some (.b "dict")
    | some (.ins c _) => some (.c c)
    | none => none)
  | _ => none
def btys : List String := ["NoneType", "bool", "int", "str", "tuple", "list", "dict"]
def isiT (t u : Ty) : Bool := decide (t = u) || (decide (t = .b "bool") && decide (u = .b "int"))
def okT (t : Ty) : Bool := match t with
  | .b n => btys.contains n
  | .c n => (match S.cs[n]? with
    | some ci => ci.pl
    | none => false)
/-- a class as data: a built-in type; the class c is the fn 1000 + c -/
def clsOf : D → Option Ty
  | .ty n => some (.b n)
  | .fn n => if 1000 ≤ n then some (.c (n - 1000)) else none
  | _ => none
def clsOfs : D → Option (List Ty)
  | .tup ds => mapO clsOf ds
  | d => (clsOf d).map fun t => [t]
def isiS (x y : D) (μ : Mu) : Res D := match tyD x μ, clsOfs y with
  | some t, some ts => if (okT S t && ts.all (okT S)) = true then .ok (.bl (ts.any (isiT t))) μ else .stuck
  | _, _ => .stuck
/-- a list's items -/
def lstOf (d : D) (μ : Mu) : Option (List D) := match d with
  | .tup _ => none
  | d => seqOf d μ
def lenS (x : D) (μ : Mu) : Res D := match x with
  | .str z => if z.length ≤ 1000000 then .ok (.int z.length) μ else .stuck
  | x => (match seqOf x μ with
    | some ds => .ok (.int ds.length) μ
    | none => .stuck)
def absS (x : D) (μ : Mu) : Res D := match x with
  | .int i => .ok (.int (if i < 0 then -i else i)) μ
  | x => (match insOf x μ with
    | some (c, _) => mrun S run c "__abs__" [x] μ
    | none => .stuck)
def toIntS (x : D) (μ : Mu) : Res D := match x with
  | .int i => .ok (.int i) μ
  | .bl b => .ok (.int (if b then 1 else 0)) μ
  | .str z => (match PySem.intText? z with
    | some n => if z.length ≤ 640 then .ok (.int n) μ else .stuck
    | none => .stuck)
  | _ => .stuck
def toTupS (x : D) (μ : Mu) : Res D := match seqOf x μ with
  | some ds => .ok (.tup ds) μ
  | none => .stuck
def toLstS (c : Bool) (x : D) (μ : Mu) : Res D := match seqOf x μ with
  | some ds => if c = true then .ok (.cell μ.length) (μ ++ [.lst ds]) else .ok (.lst ds) μ
  | none => .stuck
def strS (x : D) (μ : Mu) : Res D := match x with
  | .int i => if i.natAbs.log2 < 1920 then .ok (.str (toString i)) μ else .stuck
  | .str z => .ok (.str z) μ
  | _ => .stuck
/-- a list of flags -/
def blsOf : List D → Option (List Bool)
  | [] => some []
  | .bl b :: ds => (blsOf ds).map (b :: ·)
  | _ => none
def allS (x : D) (μ : Mu) : Res D := match lstOf x μ with
  | some ds => (match blsOf ds with
    | some bs => .ok (.bl (bs.all id)) μ
    | none => .stuck)
  | none => .stuck
def biS (b : BI) (ds : List D) (μ : Mu) : Res D := match b, ds with
  | .tuple, [x] => toTupS x μ
  | .list, [x] => toLstS false x μ
  | .listC, [x] => toLstS true x μ
  | .str, [x] => strS x μ
  | .all, [x] => allS x μ
  | .isinstance, [x, y] => isiS S x y μ
  | .len, [x] => lenS x μ
  | .abs, [x] => absS S run x μ
  | .int, [x] => toIntS x μ
  | _, _ => .stuck
/-- xs[lo:hi] -/
def cutD (xs : List D) (lo hi : Option Int) : List D := (xs.drop (HT.sIx xs.length 0 lo)).take (HT.sIx xs.length xs.length hi - HT.sIx xs.length 0 lo)
def slS (c : Bool) (x : D) (lo hi : Option Int) (μ : Mu) : Res D := match x with
  | .str z => if z.length ≤ 1000000 then .ok (.str (cutS z lo hi)) μ else .stuck
  | .tup ds => .ok (.tup (cutD ds lo hi)) μ
  | x => (match seqOf x μ with
    | some ds => if c = true then .ok (.cell μ.length) (μ ++ [.lst (cutD ds lo hi)]) else .ok (.lst (cutD ds lo hi)) μ
    | none => .stuck)
/-- binding by a shape -/
def putSrc {α : Type} : List Src → List α → List α → List α → List α
  | [], _, _, _ => []
  | .p i :: r, ds, its, es => (ds[i]?).toList ++ putSrc r ds its es
  | .k i :: r, ds, its, es => (es[i]?).toList ++ putSrc r ds its es
  | .d i :: r, ds, its, es => (its[i]?).toList ++ putSrc r ds its es
def bindS (sh : Sh) (dds ds es : List D) : List D := putSrc sh.src ds dds es
def callKS (s : Nat) (ds es : List D) (μ : Mu) : Res D := match S.sh[s]? with
  | some sh => (match S.fs[sh.f]? with
    | some fi => if ds.length = sh.n ∧ es.length = sh.ks.length then run sh.f (bindS sh fi.dds ds es) μ else .stuck
    | none => .stuck)
  | none => .stuck
/-- a class called; its __init__ is given the object and these -/
noncomputable def mkS (z : Bool) (c : Nat) (init : List D → PM D) (μ : Mu) : Res D := (init [.cell μ.length] (μ ++ [.ins c []])).bind fun r m => match r with
  | .non => if z = true then closeFz μ (.cell μ.length) m else .ok (.cell μ.length) m
  | _ => .stuck
def attrS (x : Str) (o : D) (μ : Mu) : Res D := match insOf o μ with
  | some (c, ds) => (match S.fld c x with
    | some j => (match ds[j]? with
      | some d => .ok d μ
      | none => .stuck)
    | none => .stuck)
  | none => .stuck
/-- the method is found ahead of the arguments -/
def methS (m : Str) (o : D) (args : Mu → Res (List D)) (μ : Mu) : Res D := match insOf o μ with
  | some (c, _) => (match S.mi c m with
    | some i => (args μ).bind fun ds μ => run i (o :: ds) μ
    | none => .stuck)
  | none => .stuck
/-! methods of lists and texts -/
def isStrD : D → Bool
  | .str _ => true
  | _ => false
def isLstC (o : D) (μ : Mu) : Bool := match o with
  | .cell i => (match μ[i]? with
    | some (.lst _) => true
    | _ => false)
  | _ => false
def BM.ok : BM → D → Mu → Bool
  | .append, o, μ => isLstC o μ
  | .insert, o, μ => isLstC o μ
  | .startswith, o, _ => isStrD o
  | .partition, o, _ => isStrD o
  | .join, o, _ => isStrD o
  | .split, o, _ => isStrD o
/-- a cell's list is written -/
def wrS (i : Nat) (f : List D → Option (List D)) (μ : Mu) : Res D := match μ[i]? with
  | some (.lst xs) => (match f xs with
    | some ys => .ok .non (μ.set i (.lst ys))
    | none => .stuck)
  | _ => .stuck
def insF (k : Int) (y : D) (xs : List D) : Option (List D) := if xs.length < 1000000 ∧ 0 ≤ k ∧ k < 2 ^ 62 then some (xs.take k.toNat ++ [y] ++ xs.drop k.toNat) else none
def appF (y : D) (xs : List D) : Option (List D) := if xs.length < 1000000 then some (xs ++ [y]) else none
def appS (o : D) (ds : List D) (μ : Mu) : Res D := match o, ds with
  | .cell i, [y] => wrS i (appF y) μ
  | _, _ => .stuck
def insS (o : D) (ds : List D) (μ : Mu) : Res D := match o, ds with
  | .cell i, [.int k, y] => wrS i (insF k y) μ
  | _, _ => .stuck
def swS (o : D) (ds : List D) (μ : Mu) : Res D := match o, ds with
  | .str a, [.str b] => .ok (.bl (Txt.startswith a b)) μ
  | _, _ => .stuck
def ptS (o : D) (ds : List D) (μ : Mu) : Res D := match o, ds with
  | .str a, [.str b] => if (b.length == 0) = false ∧ a.length ≤ 1000000 then .ok (.tup [.str (Txt.partition a b).1, .str (Txt.partition a b).2.1, .str (Txt.partition a b).2.2]) μ else .stuck
  | _, _ => .stuck
/-- texts -/
def strsOf : List D → Option (List Str)
  | [] => some []
  | .str a :: r => (match strsOf r with
    | some ys => some (a :: ys)
    | none => none)
  | _ :: _ => none
def jnS (o : D) (ds : List D) (μ : Mu) : Res D := match o, ds with
  | .str a, [y] => (match seqOf y μ with
    | some xs => (match strsOf xs with
      | some ys => if (ys.map (·.length)).sum + ys.length * a.length ≤ 1000000 then .ok (.str (Txt.join a ys)) μ else .stuck
      | none => .stuck)
    | none => .stuck)
  | _, _ => .stuck
def spS (o : D) (ds : List D) (μ : Mu) : Res D := match o, ds with
  | .str a, [.str b] => if (b.length == 0) = false ∧ a.length + 2 ≤ 1000000 then .ok (.lst ((Txt.split a b).map .str)) μ else .stuck
  | _, _ => .stuck
def bmR (m : BM) : D → List D → PM D := match m with
  | .append => appS
  | .insert => insS
  | .startswith => swS
  | .partition => ptS
  | .join => jnS
  | .split => spS
def bmS (m : BM) (o : D) (args : Mu → Res (List D)) (μ : Mu) : Res D := if m.ok o μ = true then (args μ).bind fun ds μ => bmR m o ds μ else .stuck
/-! exceptions -/
def eFldS (i : Nat) (x : Str) (δ : Env3) (μ : Mu) : Res D := match δ[i]? with
  | some (some (.err (.own c) (some ds))) => (match S.xin c with
    | some _ => (match (S.xfN c).findIdx? (· == x) with
      | some j => (match ds[j]? with
        | some d => .ok d μ
        | none => .stuck)
      | none => .stuck)
    | none => .stuck)
  | _ => .stuck
def eIsS (i : Nat) (t : XC) (δ : Env3) (μ : Mu) : Res D := match δ[i]? with
  | some (some (.err (.own c) _)) => (match S.xin c with
    | some _ => (match S.xsub (.own c) t with
      | some b => .ok (.bl b) μ
      | none => .stuck)
    | none => .stuck)
  | _ => .stuck
def raiseS (c : Nat) (δ : Env3) (ds : List D) (μ : Mu) : RS := match S.xin c with
  | some _ => if ds.length = (S.xfN c).length then .exc (.own c) (some ds) δ μ else .stuck
  | none => .stuck
def raise0S (c : Nat) (δ : Env3) (μ : Mu) : RS := if S.x0 c = true then .exc (.own c) none δ μ else .stuck
/-- x op= y -/
def augS (o : Operator) (x y : D) (μ : Mu) : Res D := match o, x, y with
  | .Add, .int i, .int j => .ok (.int (i + j)) μ
  | .Sub, .int i, .int j => .ok (.int (i - j)) μ
  | _, _, _ => .stuck
def augE (i : Nat) (o : Operator) (F : FE) : FS := fun δ μ => match δ[i]? with
  | some (some x) => (F δ μ).toS δ fun y m => (augS o x y m).toS δ fun z m => .nx (δ.set i (some z)) m
  | _ => .stuck
/-- a suite lets no exception out -/
def RS.noX (r : RS) : RS := match r with
  | .exc .. => .stuck
  | r => r
/-- the name of an except clause goes -/
def RS.gone (i : Nat) (r : RS) : RS := match r with
  | .nx δ μ => .nx (δ.set i none) μ
  | .brk δ μ => .brk (δ.set i none) μ
  | .ct δ μ => .ct (δ.set i none) μ
  | .exc .. => .stuck
  | r => r
def catchA (c : XC) (i : Nat) (h : FS) (r : RS) : RS := match r with
  | .exc t fs δ μ => (match S.xsub t c with
    | some true => (h (δ.set i (some (.err t fs))) μ).gone i
    | some false => .exc t fs δ μ
    | none => .stuck)
  | r => r
def catchO (c : XC) (h : FS) (r : RS) : RS := match r with
  | .exc t fs δ μ => (match S.xsub t c with
    | some true => (h δ μ).noX
    | some false => .exc t fs δ μ
    | none => .stuck)
  | r => r
/-! comprehensions -/
def Res.noX {α : Type} (r : Res α) : Res α := match r with
  | .exc .. => .stuck
  | r => r
def wipeD (δ : Env3) : List Nat → Env3
  | [] => δ
  | v :: vs => (wipeD δ vs).set v none
/-- the new list grows at its cell -/
def growS (p : Nat) (v : D) (μ : Mu) : Res Unit := match μ[p]? with
  | some (.lst acc) => if acc.length < 1000000 then .ok () (μ.set p (.lst (acc ++ [v]))) else .stuck
  | _ => .stuck
def compT (t : Tg) (Ft : FT) (Fe : FE) (p : Nat) (δ : Env3) (d : D) (μ : Mu) : Res Unit := match t.put d δ with
  | none => .stuck
  | some δ' => ((Ft δ' μ).bind fun b μ => if b = true then (Fe δ' μ).bind fun v μ => growS p v μ else .ok () μ).noX
def compL (t : Tg) (Ft : FT) (Fe : FE) (p : Nat) (δ : Env3) : List D → PM D
  | [], μ => .ok (.cell p) μ
  | d :: ds, μ => (compT t Ft Fe p δ d μ).bind fun _ μ => compL t Ft Fe p δ ds μ
/-- .. while the cells that are walked stay -/
noncomputable def compG (gs : List (Nat × List D)) (t : Tg) (Ft : FT) (Fe : FE) (p : Nat) (δ : Env3) : List D → PM D
  | [], μ => if gOk gs μ then .ok (.cell p) μ else .stuck
  | d :: ds, μ => if gOk gs μ then (compT t Ft Fe p δ d μ).bind fun _ μ => compG gs t Ft Fe p δ ds μ else .stuck
theorem compG_nil {t : Tg} {Ft : FT} {Fe : FE} {p : Nat} {δ : Env3} : compG [] t Ft Fe p δ = compL t Ft Fe p δ := by
  funext ds
  induction ds with
  | nil => funext μ; exact if_pos gOk_nil
  | cons d ds ih =>
    funext μ
    show (if gOk [] μ then (compT t Ft Fe p δ d μ).bind fun _ μ => compG [] t Ft Fe p δ ds μ else .stuck) = _
    rw [if_pos gOk_nil, ih]
    rfl
noncomputable def dComp (own : List Nat) (t : Tg) (Fi : FI) (Ft : FT) (Fe : FE) : FE := fun δ μ => (Fi δ μ).bind fun p m => compG p.2 t Ft Fe m.length (wipeD δ own) p.1 (m ++ [.lst []])
/-! ### meaning -/
mutual
noncomputable def semE : JE → FE
  | .var i => dVar i
  | .int i => dC (.int i)
  | .bl b => dC (.bl b)
  | .str x => dC (.str x)
  | .non => dC .non
  | .glo n => fun _ μ => match S.ks[n]? with
    | some k => .ok k.2 μ
    | none => .stuck
  | .bin o a b => dBin (binS S run o) (semE a) (semE b)
  | .un o a => dUn (unS S run o) (semE a)
  | .cmp o a b => dBin (cmpS S run o) (semE a) (semE b)
  | .cmp2 o p a b c => fun δ μ => (semE a δ μ).bind fun x μ => (semE b δ μ).bind fun y μ => (cmpS S run o x y μ).bind fun r μ => match r with
    | .bl true => (semE c δ μ).bind fun z μ => cmpS S run p y z μ
    | .bl false => .ok (.bl false) μ
    | _ => .stuck
  | .and a b => dAnd (semE a) (semE b)
  | .or a b => dOr (semE a) (semE b)
  | .not a => dNot (semE a)
  | .ite c a b => dIf (semT c) (semE a) (semE b)
  | .tup es => dTup (semA es)
  | .lst es => dLst (semA es)
  | .lstC es => dLstC (semA es)
  | .call f es => fun δ μ => (semA es δ μ).bind fun ds μ => run f ds μ
  | .callK s es ks => fun δ μ => (semA es δ μ).bind fun ds μ => (semA ks δ μ).bind fun zs μ => callKS S run s ds zs μ
  | .mk c es => fun δ μ => (semA es δ μ).bind fun ds μ => mkS true c (fun o m => mrun S run c "__init__" (o ++ ds) m) μ
  | .mkC c es => fun δ μ => (semA es δ μ).bind fun ds μ => mkS false c (fun o m => mrun S run c "__init__" (o ++ ds) m) μ
  | .mkK s c es ks => fun δ μ => (semA es δ μ).bind fun ds μ => (semA ks δ μ).bind fun zs μ => mkS true c (fun o m => callKS S run s (o ++ ds) zs m) μ
  | .meth m o es => fun δ μ => (semE o δ μ).bind fun x μ => methS S run m x (semA es δ) μ
  | .attr x o => dUn (attrS S x) (semE o)
  | .ix a b => dBin ixD (semE a) (semE b)
  | .bi b es => dCB (biS S run b) (semA es)
  | .sl c a lo hi => fun δ μ => (semE a δ μ).bind fun x μ => (semO lo δ μ).bind fun l μ => (semO hi δ μ).bind fun h μ => slS c x l h μ
  | .fz a => fun δ μ => (semE a δ μ).bind fun d m => closeFz μ d m
  | .eFld i x => eFldS S i x
  | .eIs i t => eIsS S i t
  | .bm m o es => fun δ μ => (semE o δ μ).bind fun x μ => bmS m x (semA es δ) μ
  | .dnew => fun _ μ => .ok (.cell μ.length) (μ ++ [.dct []])
  | .comp own t it c e => dComp (own.map (·.2)) t (semI it) (semC c) (semE e)
noncomputable def semA : JA → FA
  | .nil => aNil
  | .cons e r => aCons (semE e) (semA r)
noncomputable def semO : JO → Env3 → PM (Option Int)
  | .none => fun _ μ => .ok none μ
  | .some e => fun δ μ => (semE e δ μ).bind fun d μ => match d with
    | .int i => .ok (some i) μ
    | _ => .stuck
noncomputable def semT : JT → FT
  | .val e => asB (semE e)
  | .and a b => tAnd3 (semT a) (semT b)
  | .or a b => tOr3 (semT a) (semT b)
  | .not a => tNot3 (semT a)
noncomputable def semC : JC → FT
  | .none => fun _ μ => .ok true μ
  | .some t => semT t
noncomputable def semI : JI → FI
  | .seq e => iSeq (semE e)
  | .txt e => iTxt (semE e)
  | .range1 e => iRange1 (aCons (semE e) aNil)
  | .range2 a b => iRange2 (aCons (semE a) (aCons (semE b) aNil))
  | .enum e => iEnum (aCons (semE e) aNil)
  | .zip a b => iZip (aCons (semE a) (aCons (semE b) aNil))
end
open Classical in
/-- as many turns as it takes -/
noncomputable def whileF (Ft : FT) (B : FS) (δ : Env3) (μ : Mu) : Nat := if h : ∃ n, whileL Ft B n δ μ ≠ .stuck then Classical.choose h else 0
mutual
noncomputable def semS : JS → FS
  | .set i e => sSet i (semE S run e)
  | .par i j a b => sPar i j (semA S run (.cons a (.cons b .nil)))
  | .unp is e => sUnp is (semE S run e)
  | .ret e => sRet (semE S run e)
  | .retN => sRetN
  | .drop e => sDrop (semE S run e)
  | .ife c a b => sIf (semT S run c) (semB a) (semB b)
  | .wh c b => sWhile (whileF (semT S run c) (semB b)) (semT S run c) (semB b)
  | .fr t it b => sFor t (semI S run it) (semB b)
  | .brk => sBrk
  | .ct => sCt
  | .pass => sNil
  | .never => sNever
  | .setIx o i e => sSetIx (semE S run e) (semE S run o) (semE S run i)
  | .setAttr x o e => fun δ μ => (semE S run e δ μ).toS δ fun d μ => (semE S run o δ μ).toS δ fun o μ => match o with
    | .cell i => (match μ[i]? with
      | some (.ins c ds) => (match S.fld c x with
        | some j => if j < ds.length then .nx δ (μ.set i (.ins c (ds.set j d))) else if j = ds.length then .nx δ (μ.set i (.ins c (ds ++ [d]))) else .stuck
        | none => .stuck)
      | _ => .stuck)
    | _ => .stuck
  | .raise c es => fun δ μ => (semA S run es δ μ).toS δ fun ds μ => raiseS S c δ ds μ
  | .raise0 c => fun δ μ => raise0S S c δ μ
  | .aug i o e => augE i o (semE S run e)
  | .tryA b c i h => fun δ μ => catchA S c i (semB h) (semB b δ μ)
  | .tryO b c h => fun δ μ => catchO S c (semB h) (semB b δ μ)
noncomputable def semB : JB → FS
  | .nil => sNil
  | .cons s r => sSeq (semS s) (semB r)
end
end
/-- the defs, n calls deep -/
noncomputable def runS (S : Sig) : Nat → Nat → List D → PM D
  | 0, _ => fun _ _ => .stuck
  | n + 1, i => match S.fs[i]? with
    | none => fun _ _ => .stuck
    | some fi => if fi.fz = true then fzF (fnR fi.N.length fi.ps.length (semB S (runS S n) fi.body)) else fnR fi.N.length fi.ps.length (semB S (runS S n) fi.body)
theorem runS_ar {S : Sig} : ∀ {n i : Nat} {fi : Fd}, S.fs[i]? = some fi → ∀ ds μ, ds.length ≠ fi.ps.length → runS S n i ds μ = .stuck
  | 0, _, _, _, _, _, _ => rfl
  | n + 1, i, fi, e, ds, μ, l => by
    unfold runS
    rw [e]
    dsimp only
    have h : ∀ ds μ, ds.length ≠ fi.ps.length → fnR fi.N.length fi.ps.length (semB S (runS S n) fi.body) ds μ = .stuck := fun ds μ l => by
      unfold fnR
      rw [if_neg l]
    cases fi.fz with
    | true => rw [if_pos rfl]; exact fzF_ar h ds μ l
    | false => rw [if_neg (by decide)]; exact h ds μ l
end L3

set_option maxRecDepth 100000
set_option maxHeartbeats 2000000
/-! L4c: what the program's top has left; the operations on data are what the values do. -/
namespace L3
open PySem PySem.Spec PyProof.Rows L2

def tval (G : Gx) : Ty → Value
  | .b n => .type n
  | .c n => .ref (G.cA n)
/-- what isinstance asks of a class -/
structure InsF (K : PySem.W.Frag) (C : Addr) : Prop where
  cl : Cls K C
  ha : PySem.W.findIn K (.ref C) "__class__" = some (some (.builtin "object.__class__"))
  hn : PySem.W.specialIn K (.builtin "object.__class__") "__get__" = some (some (.builtin "getset_descriptor.__get__"))
  ht : PySem.W.takesIn K (.builtin "object.__class__") = some true
  hm : PySem.W.mroIn K C (.type "object") = some true
def InsF.ok (K : PySem.W.Frag) (C : Addr) : Bool := decide (PySem.W.findIn K (.ref C) "__class__" = some (some (.builtin "object.__class__"))) && (decide (PySem.W.specialIn K (.builtin "object.__class__") "__get__" = some (some (.builtin "getset_descriptor.__get__"))) &&
  (decide (PySem.W.takesIn K (.builtin "object.__class__") = some true) && decide (PySem.W.mroIn K C (.type "object") = some true)))
theorem InsF.of {K : PySem.W.Frag} {C : Addr} (cl : Cls K C) (h : InsF.ok K C = true) : InsF K C := by
  unfold InsF.ok at h
  simp only [Bool.and_eq_true, decide_eq_true_eq] at h
  exact ⟨cl, h.1, h.2.1, h.2.2.1, h.2.2.2⟩
/-- an own def's promise -/
structure OwnK (P : Program) (w : World) (K : PySem.W.Frag) (mg : Str → Option Value) (base : Heap) (G : Gx) (k : Nat) (f : Addr) (np : Nat) (F : List D → PM D) (fd : FuncData) (ps : List Str) : Prop where
  ar : ∀ ds μ, ds.length ≠ np → F ds μ = .stuck
  ok : FnOk P w K mg base (L2.CX P w) k f fd ps (sp3 K G np F)
  bn : Binds K fd ps []
/-- a shape's binding -/
def ShOk (K : PySem.W.Frag) (sh : Sh) (fd : FuncData) (ps : List Str) (dds : List D) : Prop :=
  ∃ (g : List Value → List Value → List Value) (gV : List V → List V → List V), KBn K fd ps sh.n sh.ks g gV ∧ ∀ (G : Gx) (ι : List Addr) (M : Hp) (vs zs : List V) (ds es : List D), Reps K G ι M vs ds → Reps K G ι M zs es → Reps K G ι M (gV vs zs) (bindS sh dds ds es)
/-- what an exception's __init__ does: its values become its fields -/
def spXi (C : Addr) (fs : List Str) : Sp := fun vs H Q _ => ∃ a ys, vs = .ref a :: ys ∧ ys.length = fs.length ∧ H a = some (exo a C none) ∧
  ∀ dx H', H dx = none → H' a = some (exo a C (some dx)) → H' dx = some (exd dx (fs.zip ys).reverse) → (∀ b, b ≠ a → b ≠ dx → H' b = H b) → Q .non H'
/-- what of the text a static method asks -/
structure SmF (K : PySem.W.Frag) (C : Addr) (m : Str) (f : Addr) : Prop where
  rd : PySem.W.readsIn K C (.type "type") = true
  ga : PySem.W.specialIn K (.ref C) "__getattribute__" = some (some (.builtin "type.__getattribute__"))
  ty : PySem.W.typeIn K (.ref C) = some (.type "type")
  at_ : ∃ p, PySem.W.findCls K (.ref C) (.type "type") m = some (.get (.builtin "staticmethod.__get__") (.ref p) .none (.ref C)) ∧ ∃ rest, PySem.W.recIn K p "staticmethod" = some (.ref f :: rest)
  kp : PySem.W.keepIn K (.ref f) = true
structure Tb (P : Program) (w : World) (K : PySem.W.Frag) (mg : Str → Option Value) (base : Heap) (G : Gx) (S : Sig) (fd : Nat → FuncData) (k : Nat) (run : Nat → List D → PM D) : Prop where
  gok : GOk K G
  fn : ∀ c, G.fN c = match S.cs[c]? with
    | some ci => ci.fl
    | none => []
  xn : ∀ c, G.xN c = S.xfN c
  xs : ∀ t u b, S.xsub t u = some b → PySem.W.exmOne K (xv G t) (xv G u) = some b ∧ PySem.W.kitOne K (xv G t) (xv G u) = some b
  xc : ∀ c i, S.xin c = some i → OexC K (G.cA c) ∧ XfC K (G.cA c) ∧ ExcC K (G.cA c) ∧ PySem.W.findIn K (.ref (G.cA c)) "__init__" = some (some (.ref (G.gA i))) ∧ PySem.W.typeIn K (.ref (G.gA i)) = some (.type "function") ∧
    (∀ x, x ∈ S.xfN c → PySem.W.findIn K (.ref (G.cA c)) x = some none) ∧ (S.xfN c).length ≤ 800 ∧ (S.xfN c).Nodup ∧ ∃ ps, Binds K (fd i) ps [] ∧ FnOk P w K mg base (L2.CX P w) (k + 1) (G.gA i) (fd i) ps (spXi (G.cA c) (S.xfN c))
  own : ∀ (i : Nat) (fi : Fd), S.fs[i]? = some fi → OwnK P w K mg base G k (G.gA i) fi.ps.length (run i) (fd i) fi.ps
  no : ∀ (i : Nat), S.fs[i]? = none → ∀ ds μ, run i ds μ = .stuck
  sh : ∀ (s : Nat) (sh : Sh) (fi : Fd), S.sh[s]? = some sh → S.fs[sh.f]? = some fi → ShOk K sh (fd sh.f) fi.ps fi.dds
  glf : ∀ (i : Nat) (fi : Fd), S.fs[i]? = some fi → fi.d.at_.2 = none → mg fi.d.at_.1 = some (.ref (G.gA i)) ∧ PySem.W.keepIn K (.ref (G.gA i)) = true
  glc : ∀ (c : Nat) (ci : Cd), S.cs[c]? = some ci → mg ci.nm = some (.ref (G.cA c))
  gcl : ∀ (c : Nat), c < S.cs.length → G.gA (1000 + c) = G.cA c
  ins : ∀ (c : Nat) (ci : Cd), S.cs[c]? = some ci → ci.pl = true → InsF K (G.cA c)
  mt : ∀ c m i, S.mi c m = some i → Meth K (G.cA c) m (G.gA i) ∧ m ∉ G.fN c ∧ Cls K (G.cA c)
  mkr : ∀ c i, S.mi c "__init__" = some i → Mk K (G.cA c) (G.gA i)
  opc : ∀ c, hasOps S c = true → OpC K (G.cA c)
  rop : ∀ c o, hasOps S c = true → o ∈ [Operator.Add, .Sub, .Mult, .FloorDiv, .Mod, .Pow] → ∃ rc, PySem.W.findIn K (.ref (G.cA c)) (dunderR o.info.2) = some rc ∧ (rc = none ∨ ∃ g : Addr, rc = some (.ref g))
  opi : ∀ o, o ∈ [Operator.Add, .Sub, .Mult, .FloorDiv, .Mod, .Pow] → OpI K o
  kit : ∀ t u, okT S t = true → okT S u = true → PySem.W.kitOne K (tval G t) (tval G u) = some (isiT t u)
  fr : ∀ x, x ∈ S.free → mg x = none
  con : ∀ (n : Nat) (x : Str) (d : D), S.ks[n]? = some (x, d) → ∃ u v, (mg x = some u ∨ (mg x = none ∧ bootBuiltins x = some u ∧ x ≠ "__name__")) ∧ RelV v u ∧ ∀ ι M, Rep K G ι M v d
  x0 : ∀ c, S.x0 c = true → PySem.W.excIn K (G.cA c) He.veBase "ValueError.__new__" = true ∧ PySem.W.keepIn K (.ref (G.cA c)) = true ∧ PySem.W.subIn K (.ref (G.cA c)) (.type "BaseException") = some true ∧ PySem.W.typeIn K (.ref (G.cA c)) = some (.type "type")
  sm : ∀ c m i, S.sm c m = some i → SmF K (G.cA c) m (G.gA i)
abbrev TbX (X : Cx) (G : Gx) (S : Sig) (fd : Nat → FuncData) (k : Nat) (run : Nat → List D → PM D) : Prop := Tb X.prog X.w X.K X.mg X.base G S fd k run
section
variable {X : Cx} {G : Gx} {W : WX} {S : Sig} {fd : Nat → FuncData} {k : Nat} {run : Nat → List D → PM D}
theorem Tb.get (T : TbX X G S fd k run) {i : Nat} {ds : List D} {μ : Mu} {σ : L2.St} {ι : List Addr} {M : Hp} {Q : VK} (q : FinD X G W σ ι M (run i ds μ) Q) : ∃ fi, S.fs[i]? = some fi ∧ ds.length = fi.ps.length ∧ Own X G k (G.gA i) ds.length (run i) := by
  cases e : S.fs[i]? with
  | none => rw [T.no i e] at q; exact q.elim
  | some fi =>
    have o := T.own i fi e
    have l := Fin3.ar o.ar q
    exact ⟨fi, rfl, l, l ▸ ⟨o.ar, fd i, fi.ps, o.ok, o.bn⟩⟩
/-- a method that is run -/
theorem mrun_at (T : TbX X G S fd k run) {c : Nat} {m : Str} {ds : List D} {μ : Mu} {σ : L2.St} {ι : List Addr} {M : Hp} {Q : VK} (q : FinD X G W σ ι M (mrun S run c m ds μ) Q) :
    ∃ i, Own X G k (G.gA i) ds.length (run i) ∧ Meth X.K (G.cA c) m (G.gA i) ∧ m ∉ G.fN c ∧ Cls X.K (G.cA c) ∧ FinD X G W σ ι M (run i ds μ) Q := by
  unfold mrun at q
  cases e : S.mi c m with
  | none => rw [e] at q; exact q.elim
  | some i =>
    rw [e] at q
    obtain ⟨_, _, _, o⟩ := T.get q
    obtain ⟨h1, h2, h3⟩ := T.mt c m i e
    exact ⟨i, o, h1, h2, h3, q⟩
theorem mi_meth (T : TbX X G S fd k run) {c : Nat} {m : Str} (h : (S.mi c m).isSome = true) : ∃ g, Meth X.K (G.cA c) m g := by
  cases e : S.mi c m with
  | none => rw [e] at h; cases h
  | some i => exact ⟨_, (T.mt c m i e).1⟩
theorem fin_if {c : Bool} {r : Res D} {σ : L2.St} {ι : List Addr} {M : Hp} {Q : VK} (q : FinD X G W σ ι M (if c = true then r else .stuck) Q) : c = true ∧ FinD X G W σ ι M r Q := by
  cases c with
  | true => exact ⟨rfl, by rw [if_pos rfl] at q; exact q⟩
  | false => rw [if_neg (by decide)] at q; exact q.elim
theorem fin_ins {x : D} {μ : Mu} {f : Nat → Res D} {σ : L2.St} {ι : List Addr} {M : Hp} {Q : VK} (q : FinD X G W σ ι M (match insOf x μ with | some (c, _) => f c | none => .stuck) Q) : ∃ c fs, insOf x μ = some (c, fs) ∧ FinD X G W σ ι M (f c) Q := by
  cases e : insOf x μ with
  | none => rw [e] at q; exact q.elim
  | some p => rw [e] at q; exact ⟨p.1, p.2, rfl, q⟩
theorem fin_eq {r : Res D} {c c' : Nat} {σ : L2.St} {ι : List Addr} {M : Hp} {Q : VK} (q : FinD X G W σ ι M (if c' = c then r else .stuck) Q) : c' = c ∧ FinD X G W σ ι M r Q := by
  by_cases e : c' = c
  · exact ⟨e, by rw [if_pos e] at q; exact q⟩
  · rw [if_neg e] at q; exact q.elim
/-! ### binary operators -/
theorem og_int (o : Operator) : OpG X G W (binaryOp o) (fun x y μ => match x, y with | .int i, .int j => intB o i j μ | _, _ => .stuck) := by
  intro pins s σ ι M H μ x y v u vv uu Q I rv ru S' rx ry q
  cases x with
  | int i =>
    cases y with
    | int j =>
      cases o with
      | Add => exact OpG.of op_add (op2_I0 (f := fun i j => .int (i + j)) fun _ _ _ _ => .int) pins s σ ι M H μ _ _ v u vv uu Q I rv ru S' rx ry q
      | Sub => exact OpG.of op_sub (op2_I0 (f := fun i j => .int (i - j)) fun _ _ _ _ => .int) pins s σ ι M H μ _ _ v u vv uu Q I rv ru S' rx ry q
      | Mult => exact OpG.of op_mulA (op2_I (C := mulOk) (f := fun i j => .int (i * j)) (fun _ _ h => mulOk_ok h) fun _ _ _ _ _ => .int) pins s σ ι M H μ _ _ v u vv uu Q I rv ru S' rx ry q
      | FloorDiv => exact OpG.of op_divA (op2_I (C := divOk) (f := fun i j => .int (i.fdiv j)) (fun _ _ h => ⟨of_decide_eq_true (Bool.and_eq_true_iff.mp h).1, of_decide_eq_true (Bool.and_eq_true_iff.mp h).2⟩) fun _ _ _ _ _ => .int) pins s σ ι M H μ _ _ v u vv uu Q I rv ru S' rx ry q
      | Mod => exact OpG.of op_modN (op2_I (C := fun _ j => decide (j ≠ 0)) (f := fun i j => .int (i.fmod j)) (fun _ _ h => of_decide_eq_true h) fun _ _ _ _ _ => .int) pins s σ ι M H μ _ _ v u vv uu Q I rv ru S' rx ry q
      | Pow => exact OpG.of op_pow (op2_I (C := powOk) (f := fun i j => .int (i ^ j.toNat)) (fun i j h => ⟨of_decide_eq_true (Bool.and_eq_true_iff.mp h).1, of_decide_eq_true (Bool.and_eq_true_iff.mp (Bool.and_eq_true_iff.mp h).2).1, of_decide_eq_true (Bool.and_eq_true_iff.mp (Bool.and_eq_true_iff.mp h).2).2⟩) fun _ _ _ _ _ => .int) pins s σ ι M H μ _ _ v u vv uu Q I rv ru S' rx ry q
      | _ => exact q.elim
    | _ => exact q.elim
  | _ => exact q.elim
theorem binS_il {o : Operator} {i : Int} {y : D} {μ : Mu} (h : isIntD y = false) : binS S run o (.int i) y μ = binIO S run o i y μ := by
  cases y <;> first | rfl | (simp [isIntD] at h; done)
theorem binS_ir {o : Operator} {j : Int} {x : D} {μ : Mu} (h : isIntD x = false) : binS S run o x (.int j) μ = binOI S run o x j μ := by
  cases x <;> first | rfl | (simp [isIntD] at h; done)
theorem binS_oo {o : Operator} {x y : D} {μ : Mu} (h : isIntD x = false) (h2 : isIntD y = false) : binS S run o x y μ = binOO S run o x y μ := by
  cases x <;> first | (cases y <;> first | rfl | (simp [isIntD] at h2; done)) | (simp [isIntD] at h; done)
theorem int_of {x : D} (h : isIntD x = true) : ∃ i, x = .int i := by
  cases x with
  | int i => exact ⟨i, rfl⟩
  | _ => cases h
theorem seq_sq {ds : List D} (S' : Sto X.K G ι M H μ) (rx : Rep X.K G ι M v x) (e : seqOf x μ = some ds) : ∃ a xs, v = .ref a ∧ Reps X.K G ι M xs ds ∧ (SqL X.K H a xs ∨ SqT X.K H a xs) := by
  cases x with
  | tup es =>
    cases e
    obtain ⟨a, xs, rfl, ht, rs⟩ := rep_tup rx
    exact ⟨a, xs, rfl, rs, .inr (ht.ext S'.fz)⟩
  | lst es =>
    cases e
    obtain ⟨a, xs, rfl, ht, rs⟩ := rep_lst rx
    exact ⟨a, xs, rfl, rs, .inl (SqL.of (S'.fz _ _ ht))⟩
  | klst es =>
    cases e
    obtain ⟨a, xs, rfl, ht, rs⟩ := rep_klst rx
    exact ⟨a, xs, rfl, rs, .inl (ht.ext S'.fz)⟩
  | cell i =>
    have e2 : (match μ[i]? with
      | some (.lst ds) => some ds
      | _ => none) = some ds := e
    cases q : μ[i]? with
    | none => rw [q] at e2; cases e2
    | some c =>
      rw [q] at e2
      cases c with
      | lst es =>
        cases e2
        obtain ⟨a, xs, rfl, _, h, rs⟩ := S'.lst q rx
        exact ⟨a, xs, rfl, rs, .inl (SqL.of h)⟩
      | _ => cases e2
  | _ => cases e
theorem hl_at {ds : List D} (S' : Sto X.K G ι M H μ) (rx : Rep X.K G ι M v x) (h : isHL x = true) (e : seqOf x μ = some ds) : ∃ a xs, v = .ref a ∧ H a = some (.lst xs) ∧ Reps X.K G ι M xs ds := by
  cases x with
  | lst es =>
    cases e
    obtain ⟨a, xs, rfl, ht, rs⟩ := rep_lst rx
    exact ⟨a, xs, rfl, S'.fz _ _ ht, rs⟩
  | cell i =>
    have e2 : (match μ[i]? with
      | some (.lst ds) => some ds
      | _ => none) = some ds := e
    cases q : μ[i]? with
    | none => rw [q] at e2; cases e2
    | some c =>
      rw [q] at e2
      cases c with
      | lst es =>
        cases e2
        obtain ⟨a, xs, rfl, _, h, rs⟩ := S'.lst q rx
        exact ⟨a, xs, rfl, h, rs⟩
      | _ => cases e2
  | _ => cases h
/-- texts, tuples, lists put together -/
theorem og_cat : OpG X G W (binaryOp .Add) (catS .Add) := by
  intro pins s σ ι M H μ x y v u vv uu Q I rv ru S' rx ry q
  have hl : FinD X G W σ ι M (catL x y μ) Q → wpAny (model X.prog X.w) X.A (binaryOp .Add vv uu) (EP X pins σ Q) X.xe s := fun q => by
    unfold catL at q
    obtain ⟨c, q⟩ := fin_if q
    obtain ⟨c1, c2⟩ := Bool.and_eq_true_iff.mp c
    cases e1 : seqOf x μ with
    | none => rw [e1] at q; exact q.elim
    | some as =>
      cases e2 : seqOf y μ with
      | none => rw [e1, e2] at q; exact q.elim
      | some bs =>
        rw [e1, e2] at q
        dsimp only at q
        split at q
        · rename_i hl
          obtain ⟨a, xs, rfl, ha, rs⟩ := hl_at S' rx c1 e1
          obtain ⟨b, ys, rfl, hb, rs'⟩ := hl_at S' ry c2 e2
          exact op_cat pins s σ H _ _ _ _ Q I rv ru ⟨a, b, xs, ys, rfl, rfl, ha, hb, line_of (by rw [rs.length, rs'.length]; exact hl), fun p hp => Fin3.new (c := .lst (as ++ bs)) q S' hp ⟨xs ++ ys, upd_same, (rs.append rs').mono (Pre.app _ _) Ext.rfl'⟩⟩
        · exact q.elim
  have q0 := q
  unfold catS at q0
  dsimp only at q0
  split at q0
  · rename_i a b
    cases rep_str rx
    cases rep_str ry
    split at q0
    · rename_i hl
      exact op_add_str pins s σ H _ _ _ _ Q I rv ru ⟨a, b, rfl, rfl, line_of hl, q0.ok S' _ .str⟩
    · exact q0.elim
  · rename_i as bs
    obtain ⟨c, q0⟩ := fin_if q0
    obtain ⟨c1, c2⟩ := Bool.and_eq_true_iff.mp c
    obtain ⟨a, xs, rfl, ha, rs⟩ := rep_tup rx
    obtain ⟨b, ys, rfl, hb, rs'⟩ := rep_tup ry
    have ne : xs ≠ [] := fun z => by
      subst z
      cases rs
      cases c1
    refine op_catT pins s σ H _ _ _ _ Q I rv ru ⟨a, b, xs, ys, rfl, rfl, ha.ext S'.fz, hb.ext S'.fz, ne, line_of (by rw [rs.length, rs'.length]; exact of_decide_eq_true c2), fun z => ?_, fun _ p hp => Fin3.frz q0 S' hp fun x => .tup (SqT.of upd_same) ((rs.append rs').mono (Pre.refl _) x)⟩
    subst z
    cases rs'
    rw [List.append_nil] at q0
    exact q0.ok S' _ (.tup ha rs)
  · exact hl q0
theorem binOO_none {o : Operator} {x y : D} {μ : Mu} (h : insOf x μ = none) : binOO S run o x y μ = catS o x y μ := by
  unfold binOO
  rw [h]
theorem og_bin (T : TbX X G S fd k run) (hr : Room k X.A) (tk : Takes X W) (o : Operator) (ho : o ∈ [Operator.Add, .Sub, .Mult, .FloorDiv, .Mod, .Pow]) : OpG X G W (binaryOp o) (binS S run o) := by
  intro pins s σ ι M H μ x y v u vv uu Q I rv ru S' rx ry q
  have oi := T.opi o ho
  cases hx : isIntD x with
  | true =>
    obtain ⟨i, rfl⟩ := int_of hx
    cases hy : isIntD y with
    | true =>
      obtain ⟨j, rfl⟩ := int_of hy
      exact og_int o pins s σ ι M H μ _ _ v u vv uu Q I rv ru S' rx ry q
    | false =>
      rw [binS_il hy] at q
      obtain ⟨c, gs, ey, q⟩ := fin_ins q
      obtain ⟨h1, q⟩ := fin_if q
      obtain ⟨h2, q⟩ := fin_if q
      obtain ⟨f, Ow, mr, _, _, q⟩ := mrun_at T q
      obtain ⟨g, mt⟩ := mi_meth T h2
      obtain ⟨h3, h4⟩ := Bool.and_eq_true_iff.mp h1
      refine int_own (f := G.gA f) (g := g) Ow (T.opc c h3) oi mt mr (fun J' pl' q' => ?_) hr tk I rv ru S' rx ry ey q
      cases o with
      | Add => exact declines_add J' pl' q'
      | Sub => exact declines_sub J' pl' q'
      | Mult => exact declines_mul J' pl' q'
      | Mod => exact declines_mod J' pl' q'
      | FloorDiv => exact declines_div J' pl' q'
      | _ => cases h4
  | false =>
    cases hy : isIntD y with
    | true =>
      obtain ⟨j, rfl⟩ := int_of hy
      rw [binS_ir hx] at q
      obtain ⟨c, fs, ex, q⟩ := fin_ins q
      obtain ⟨h1, q⟩ := fin_if q
      obtain ⟨f, Ow, mt, _, _, q⟩ := mrun_at T q
      obtain ⟨rc, m1, m2⟩ := T.rop c o h1 ho
      exact own_int (f := G.gA f) Ow (T.opc c h1) oi mt m1 m2 hr tk I rv ru S' rx ry ex q
    | false =>
      rw [binS_oo hx hy] at q
      cases ex : insOf x μ with
      | none =>
        rw [binOO_none ex] at q
        cases o with
        | Add => exact og_cat pins s σ ι M H μ _ _ v u vv uu Q I rv ru S' rx ry q
        | _ => exact q.elim
      | some pr =>
      obtain ⟨c, fs⟩ := pr
      unfold binOO at q
      rw [ex] at q
      dsimp only at q
      obtain ⟨h1, q⟩ := fin_if q
      obtain ⟨c', gs, ey, q⟩ := fin_ins q
      obtain ⟨e, q⟩ := fin_eq q
      subst e
      obtain ⟨f, Ow, mt, _, _, q⟩ := mrun_at T q
      exact own_same (f := G.gA f) Ow (T.opc _ h1) mt hr tk I rv ru S' rx ry ex ey q
/-! ### unary operators -/
theorem og_un (T : TbX X G S fd k run) (hr : Room k X.A) (tk : Takes X W) (o : UnaryOp) : UnG X G W (unaryOp o) (unS S run o) := by
  intro pins s σ ι M H μ x v vv Q I rv S' rx q
  cases o with
  | USub =>
    cases hx : isIntD x with
    | true =>
      obtain ⟨i, rfl⟩ := int_of hx
      exact UnG.of un_neg (op1_I (f := fun i => .int (-i)) fun _ _ _ => .int) pins s σ ι M H μ _ v vv Q I rv S' rx q
    | false =>
      have e : unS S run .USub x μ = (match insOf x μ with | some (c, _) => mrun S run c "__neg__" [x] μ | none => .stuck) := by
        cases x <;> first | rfl | (simp [isIntD] at hx; done)
      rw [e] at q
      obtain ⟨c, fs, ex, q⟩ := fin_ins q
      obtain ⟨f, Ow, mt, _, _, q⟩ := mrun_at T q
      exact own_neg (f := G.gA f) Ow mt hr tk I rv S' rx ex q
  | UAdd =>
    have e : unS S run .UAdd x μ = (match insOf x μ with | some (c, _) => mrun S run c "__pos__" [x] μ | none => .stuck) := by
      cases x <;> rfl
    rw [e] at q
    obtain ⟨c, fs, ex, q⟩ := fin_ins q
    obtain ⟨f, Ow, mt, _, _, q⟩ := mrun_at T q
    exact own_pos (f := G.gA f) Ow mt hr tk I rv S' rx ex q
  | _ => exact q.elim
/-! ### comparisons -/
theorem insOf_int {i : Int} {μ : Mu} : insOf (.int i) μ = none := rfl
theorem og_intC (o : CmpOp) : OpG X G W (compareOp o) (fun x y μ => match x, y with | .int i, .int j => intC o i j μ | _, _ => .stuck) := by
  intro pins s σ ι M H μ x y v u vv uu Q I rv ru S' rx ry q
  cases x with
  | int i =>
    cases y with
    | int j =>
      cases o with
      | Lt => exact OpG.of op_lt (op2_I0 (f := fun i j => .bl (decide (i < j))) fun _ _ _ _ => .bl) pins s σ ι M H μ _ _ v u vv uu Q I rv ru S' rx ry q
      | LtE => exact OpG.of op_le (op2_I0 (f := fun i j => .bl (decide (i ≤ j))) fun _ _ _ _ => .bl) pins s σ ι M H μ _ _ v u vv uu Q I rv ru S' rx ry q
      | Gt => exact OpG.of op_gt (op2_I0 (f := fun i j => .bl (decide (j < i))) fun _ _ _ _ => .bl) pins s σ ι M H μ _ _ v u vv uu Q I rv ru S' rx ry q
      | GtE => exact OpG.of op_ge (op2_I0 (f := fun i j => .bl (decide (j ≤ i))) fun _ _ _ _ => .bl) pins s σ ι M H μ _ _ v u vv uu Q I rv ru S' rx ry q
      | Eq => exact OpG.of op_eqN op2_eqS pins s σ ι M H μ _ _ v u vv uu Q I rv ru S' rx ry (by show Fin3 X.K G W σ ι M (Res.ok (D.bl (false != decide (i = j))) μ) _; rw [Bool.false_bne]; exact q)
      | NotEq => exact OpG.of op_neN op2_eqS pins s σ ι M H μ _ _ v u vv uu Q I rv ru S' rx ry (by show Fin3 X.K G W σ ι M (Res.ok (D.bl (true != decide (i = j))) μ) _; rw [Bool.true_bne]; exact q)
      | _ => exact q.elim
    | _ => exact q.elim
  | _ => exact q.elim
theorem cmp_own (T : TbX X G S fd k run) (hr : Room k X.A) (tk : Takes X W) {o : CmpOp} {m : Str} (hm : cmpDun o = some m) {pins : List (Addr × Obj)} {s : Shared} {σ : L2.St} {ι : List Addr} {M H : Hp} {μ : Mu} {x y : D} {v u : V} {vv uu : Value} {Q : VK} {c : Nat} {fs : List D}
    (I : Inv X pins σ H s) (rv : RelV v vv) (ru : RelV u uu) (S' : Sto X.K G ι M H μ) (rx : Rep X.K G ι M v x) (ry : Rep X.K G ι M u y) (ex : insOf x μ = some (c, fs))
    (q : FinD X G W σ ι M (cmpOwn S run c m x y μ) Q) : wpAny (model X.prog X.w) X.A (compareOp o vv uu) (EP X pins σ Q) X.xe s := by
  obtain ⟨h1, q⟩ := fin_if q
  have hop : ∀ a b, compareOp o a b = richCompare o a b := by
    intro a b
    cases o <;> first | rfl | cases hm
  have hn : (cmpInfo o).2.1 = m := by
    cases o <;> first | (cases hm; rfl) | cases hm
  cases hy : isIntD y with
  | true =>
    obtain ⟨j, rfl⟩ := int_of hy
    obtain ⟨f, Ow, mt, _, _, q⟩ := mrun_at T q
    exact own_cmpI (f := G.gA f) Ow hop (T.opc c h1) (hn ▸ mt) hr tk I rv ru S' rx ry ex q
  | false =>
    have key : ∃ c' gs, insOf y μ = some (c', gs) ∧ FinD X G W σ ι M (if c' = c then mrun S run c m [x, y] μ else .stuck) Q := by
      cases y <;> first | exact fin_ins q | (simp [isIntD] at hy; done)
    obtain ⟨c', gs, ey, q⟩ := key
    obtain ⟨e, q⟩ := fin_eq q
    subst e
    obtain ⟨f, Ow, mt, _, _, q⟩ := mrun_at T q
    exact own_cmp (f := G.gA f) Ow hop (hn ▸ mt) hr tk I rv ru S' rx ry ex ey q
mutual
theorem py_dp {K : PySem.W.Frag} {ι : List Addr} {M H : Hp} (x : Ex M H) : ∀ {v : V} {d : D} {p : PyData}, Rep K G ι M v d → pyD d = some p → Dp K H v p
  | _, _, _, .non, e => by cases e; exact .non
  | _, _, _, .bl, e => by cases e; exact .bl _
  | _, _, _, .int, e => by cases e; exact .int _
  | _, _, _, .str, e => by cases e; exact .str _
  | _, _, _, .ty, e => by cases e
  | _, _, _, .fn, e => by cases e
  | _, _, _, .tup (ds := ds) h r, e => by
    have e : (pyDs ds).map PyData.tuple = some _ := e
    cases e2 : pyDs ds with
    | none => rw [e2] at e; cases e
    | some ps => rw [e2] at e; cases e; exact .tup (h.ext x) (py_dps x r e2)
  | _, _, _, .lst (ds := ds) h r, e => by
    have e : (pyDs ds).map PyData.list = some _ := e
    cases e2 : pyDs ds with
    | none => rw [e2] at e; cases e
    | some ps => rw [e2] at e; cases e; exact .lst (.inl (.inl (x _ _ h))) (py_dps x r e2)
  | _, _, _, .klst (ds := ds) h r, e => by
    have e : (pyDs ds).map PyData.list = some _ := e
    cases e2 : pyDs ds with
    | none => rw [e2] at e; cases e
    | some ps => rw [e2] at e; cases e; exact .lst (h.ext x) (py_dps x r e2)
  | _, _, _, .ins _ _ _, e => by cases e
  | _, _, _, .cell _, e => by cases e
theorem py_dps {K : PySem.W.Frag} {ι : List Addr} {M H : Hp} (x : Ex M H) : ∀ {vs : List V} {ds : List D} {ps : List PyData}, Reps K G ι M vs ds → pyDs ds = some ps → DpAll K H vs ps
  | _, _, _, .nil, e => by cases e; exact .nil
  | _, _, _, .cons (d := d) (ds := ds) h r, e => by
    have e : (match pyD d, pyDs ds with
      | some p, some ps => some (p :: ps)
      | _, _ => none) = some _ := e
    cases e1 : pyD d with
    | none => rw [e1] at e; cases e
    | some p =>
      cases e2 : pyDs ds with
      | none => rw [e1, e2] at e; cases e
      | some ps => rw [e1, e2] at e; cases e; exact .cons (py_dp x h e1) (py_dps x r e2)
end
theorem pyc_dp {K : PySem.W.Frag} {ι : List Addr} {M H : Hp} {μ : Mu} (S' : Sto K G ι M H μ) {v : V} {d : D} {p : PyData} (r : Rep K G ι M v d) (e : pyC μ d = some p) : Dp K H v p := by
  cases d with
  | cell i =>
    have e : (match μ[i]? with
      | some (.lst ds) => (pyDs ds).map PyData.list
      | _ => none) = some p := e
    obtain ⟨a, rfl, h⟩ := rep_cell r
    obtain ⟨c, hc, _, k⟩ := S'.at h
    rw [hc] at e
    cases c with
    | lst ds =>
      obtain ⟨xs, h1, r1⟩ := k
      have e : (pyDs ds).map PyData.list = some p := e
      cases e2 : pyDs ds with
      | none => rw [e2] at e; cases e
      | some ps => rw [e2] at e; cases e; exact .lst (.inl (.inl h1)) (py_dps S'.fz r1 e2)
    | _ => cases e
  | _ => exact py_dp S'.fz r e
theorem rep_flat {x : D} (h : flatD x = true) (r : Rep X.K G ι M v x) : flatV v = true := by
  cases r <;> first | rfl | cases h
theorem rep_eqF {y : D} (hx : flatD x = true) (hy : flatD y = true) (r : Rep X.K G ι M v x) (q : Rep X.K G ι M u y) : eqV v u = eqF x y := by
  cases r <;> first | (cases q <;> first | rfl | cases hy) | cases hx
/-! == and != item by item -/
theorem runA {f : Addr} {np : Nat} {F : List D → PM D} {A : Around} {pins : List (Addr × Obj)} {s : Shared} {σ : L2.St} {ι : List Addr} {M H : Hp} {μ : Mu} {Q : VK} (T : Own X G k f np F) (hr : Room k A) (e0 : Env0 X.prog X.w X.K X.mg X.base A X.stack s H) (tk : Takes X W) {us : List Value} {vs : List V} {ds : List D} (I : Inv X pins σ H s) (S' : Sto X.K G ι M H μ)
    (r : Vals vs us) (rv : Reps X.K G ι M vs ds) (q : FinD X G W σ ι M (F ds μ) Q) : wpAny (model X.prog X.w) A (call (.ref f) us) (EP X pins σ Q) X.xe s := by
  obtain ⟨fd, ps, ok, hb⟩ := T.ex
  have l := Fin3.ar T.ar q
  have hsp : sp3 X.K G np F vs H Q (WE W σ) := ⟨rv.length.trans l, ι, M, μ, ds, S', rv, q.call⟩
  have hl : (us ++ []).length = ps.length := by rw [List.append_nil, ← r.length]; exact ok.len _ _ _ _ hsp
  have hbind := hb s us I.kIn hl
  rw [List.append_nil] at hbind
  refine wpAny_call (codeAny_mono (ok.run A X.stack s H ⟨us, []⟩ us vs Q (WE W σ) hr e0 hbind r hsp) fun res s' hq => ?_)
  cases res with
  | error e => exact passAt tk σ pins H s e s' I hq
  | ok fl =>
    cases fl with
    | ret u => exact I.after hq
    | _ => exact False.elim hq
/-- what stays while items are compared -/
def Kp (X : Cx) (G : Gx) (pins : List (Addr × Obj)) (σ : L2.St) (ι : List Addr) (M : Hp) (μ : Mu) (s : Shared) : Prop := ∃ ι' M' H', Inv X pins σ H' s ∧ Pre ι ι' ∧ Ex M M' ∧ Sto X.K G ι' M' H' μ
def EqB (X : Cx) (G : Gx) (n : Nat) (el : D → D → Option Bool) (μ : Mu) : Prop :=
  ∀ (A : Around) (pins : List (Addr × Obj)) (s : Shared) (σ : L2.St) (ι : List Addr) (M H : Hp) (x y : D) (v u : V) (vv uu : Value) (b : Bool), L2.Sub X n A → Inv X pins σ H s → RelV v vv → RelV u uu → Sto X.K G ι M H μ → Rep X.K G ι M v x → Rep X.K G ι M u y → el x y = some b →
    wpAny (model X.prog X.w) A (eqBool vv uu) (fun r s' => r = b ∧ Kp X G pins σ ι M μ s') X.xe s
/-- the same value is equal to itself -/
def ElS (X : Cx) (G : Gx) (el : D → D → Option Bool) (μ : Mu) : Prop :=
  ∀ (pins : List (Addr × Obj)) (s : Shared) (σ : L2.St) (ι : List Addr) (M H : Hp) (x y : D) (v : V) (b : Bool), Inv X pins σ H s → Sto X.K G ι M H μ → Rep X.K G ι M v x → Rep X.K G ι M v y → el x y = some b → b = true
theorem EqB.mono {n m : Nat} {el : D → D → Option Bool} {μ : Mu} (h : EqB X G n el μ) (l : n ≤ m) : EqB X G m el μ := fun A pins s σ ι M H x y v u vv uu b sb => h A pins s σ ι M H x y v u vv uu b (sb.mono l)
theorem flat_same {K : PySem.W.Frag} {ι : List Addr} {M : Hp} {v : V} {x y : D} (hx : flatD x = true) (hy : flatD y = true) (r : Rep K G ι M v x) (q : Rep K G ι M v y) : sameF x y = true ∧ eqF x y = true := by
  cases r <;> first | (cases hx; done) | (cases q <;> first | (cases hy; done) | (constructor <;> simp [sameF, eqF]; done))
theorem flats_same {K : PySem.W.Frag} {ι : List Addr} {M : Hp} : ∀ {vs : List V} {fs gs : List D}, fs.all flatD = true → gs.all flatD = true → Reps K G ι M vs fs → Reps K G ι M vs gs → sameFs fs gs = true
  | [], fs, gs, _, _, r, q => by cases r; cases q; rfl
  | v :: vs, fs, gs, hf, hg, r, q => by
    cases r with
    | cons r1 rr =>
      cases q with
      | cons q1 qq =>
        obtain ⟨a1, a2⟩ := Bool.and_eq_true_iff.mp (show (flatD _ && List.all _ flatD) = true from hf)
        obtain ⟨b1, b2⟩ := Bool.and_eq_true_iff.mp (show (flatD _ && List.all _ flatD) = true from hg)
        show (sameF _ _ && sameFs _ _) = true
        rw [(flat_same a1 b1 r1 q1).1, flats_same a2 b2 rr qq]
        rfl
theorem zip_inj {N : List Str} {vs us : List V} (l1 : vs.length ≤ N.length) (l2 : us.length ≤ N.length) (e : N.zip vs = N.zip us) : vs = us := by
  have := congrArg (List.map Prod.snd) e
  rwa [List.map_snd_zip l1, List.map_snd_zip l2] at this
/-- what eqI says -/
theorem eqI_ins {x y : D} {μ : Mu} {b : Bool} {c : Nat} {fs : List D} (ex : insOf x μ = some (c, fs)) (e : eqI S run x y μ = some b) : ∃ gs, insOf y μ = some (c, gs) ∧ fs.all flatD = true ∧ gs.all flatD = true ∧ mrun S run c "__eq__" [x, y] μ = .ok (.bl b) μ ∧ (sameFs fs gs = true → b = true) := by
  unfold eqI at e
  rw [ex] at e
  cases ey : insOf y μ with
  | none => rw [ey] at e; cases e
  | some p =>
    obtain ⟨c', gs⟩ := p
    rw [ey] at e
    dsimp only at e
    split at e
    · rename_i h
      obtain ⟨rfl, h2⟩ := h
      obtain ⟨h3, h4⟩ := Bool.and_eq_true_iff.mp h2
      split at e
      · rename_i b' μ' em
        split at e
        · rename_i h5
          obtain ⟨rfl, h6⟩ := h5
          cases e
          refine ⟨gs, rfl, h3, h4, em, fun z => ?_⟩
          rw [z] at h6
          simpa using h6
        · cases e
      · cases e
    · cases e
theorem eqI_flat {x y : D} {μ : Mu} {b : Bool} (ex : insOf x μ = none) (e : eqI S run x y μ = some b) : flatD x = true ∧ flatD y = true ∧ eqF x y = b := by
  unfold eqI at e
  rw [ex] at e
  cases ey : insOf y μ with
  | some p => rw [ey] at e; cases e
  | none =>
    rw [ey] at e
    dsimp only at e
    split at e
    · rename_i h
      obtain ⟨h1, h2⟩ := Bool.and_eq_true_iff.mp h
      cases e
      exact ⟨h1, h2, rfl⟩
    · cases e
theorem elS_I {μ : Mu} : ElS X G (fun x y => eqI S run x y μ) μ := by
  intro pins s σ ι M H x y v b I S' rx ry e
  cases ex : insOf x μ with
  | none =>
    obtain ⟨h1, h2, h3⟩ := eqI_flat ex e
    rw [← h3]
    exact (flat_same h1 h2 rx ry).2
  | some p =>
    obtain ⟨c, fs⟩ := p
    obtain ⟨gs, ey, f1, f2, _, h⟩ := eqI_ins ex e
    obtain ⟨a, dx, vs, rfl, h1, l1, r1⟩ := S'.ins ex rx
    obtain ⟨a', dx', vs', e2, h2, l2, r2⟩ := S'.ins ey ry
    cases e2
    rw [h1] at h2
    injection h2 with h2
    injection h2 with _ _ h2
    have := zip_inj l1 l2 h2
    subst this
    exact h (flats_same f1 f2 r1 r2)
theorem eqB_I (T : TbX X G S fd k run) (tk : Takes X W) {μ : Mu} : EqB X G k (fun x y => eqI S run x y μ) μ := by
  intro A pins s σ ι M H x y v u vv uu b sb I rv ru S' rx ry e
  cases ex : insOf x μ with
  | none =>
    obtain ⟨h1, h2, h3⟩ := eqI_flat ex e
    have q := eqAt_V (A := A) (s := s) rv ru (rep_flat h1 rx) (rep_flat h2 ry)
    rw [rep_eqF h1 h2 rx ry, h3] at q
    exact q X.prog X.w X.xe _ ⟨rfl, ι, M, H, I, Pre.refl _, Ext.rfl', S'⟩
  | some p =>
    obtain ⟨c, fs⟩ := p
    obtain ⟨gs, ey, f1, f2, em, _⟩ := eqI_ins ex e
    obtain ⟨m, fr⟩ := inv_fr I
    obtain ⟨a, ox, od, rfl, rfl, _, J⟩ := S'.inst I ex rx rv
    obtain ⟨b', oy, od', rfl, rfl, _, J'⟩ := S'.inst I ey ry ru
    by_cases hab : a = b'
    · subst hab
      have hb := elS_I (S := S) (run := run) pins s σ ι M H x y (.ref a) b I S' rx ry e
      subst hb
      exact SeqAt.EqAt.same (A := A) (s := s) (.ref a) X.prog X.w X.xe _ ⟨rfl, ι, M, H, I, Pre.refl _, Ext.rfl', S'⟩
    · have q : FinD X G W σ ι M (mrun S run c "__eq__" [x, y] μ) (fun w H' => w = .bl b ∧ ∃ ι' M', Pre ι ι' ∧ Ex M M' ∧ Sto X.K G ι' M' H' μ) := by
        rw [em]
        exact fun ι' M' H' n w rw_ => ⟨rep_bl rw_, ι', M', n.pre, n.ext, n.sto⟩
      obtain ⟨f, Ow, mt, _, _, q⟩ := mrun_at T q
      have e0 : Env0 X.prog X.w X.K X.mg X.base A X.stack s H := by
        have e := I.env0
        exact ⟨by rw [sb.fr]; exact e.frames, e.mod, e.bs, e.bsz, e.funs, e.frf, e.hok, e.bare⟩
      refine GQ.eqBool_refG hab (PySem.W.cmp_K (op := .Eq) sb.room.units0 fr I.ok.mod.kin J (PySem.W.InstAt.type J') (Bool.or_eq_true_iff.mpr (.inl (beq_self_eq_true _))) mt.at_ mt.fn ?_)
      refine thn (runA (f := G.gA f) Ow sb.room e0 tk I S' (.cons (rr a) (.cons (rr b') .nil)) (.cons rx (.cons ry .nil)) q) fun u s' h => ?_
      obtain ⟨w, H', I', rw_, rfl, ι', M', p1, x1, S1⟩ := h
      cases rw_
      exact ⟨b, rfl, rfl, ι', M', H', I', p1, x1, S1⟩
/-! sequences -/
theorem sqK_tup {x : D} {μ : Mu} {ds : List D} (e : sqK x μ = some (true, ds)) : x = .tup ds := by
  cases x with
  | tup xs => cases e; rfl
  | lst xs => cases e
  | cell i =>
    have e : (match μ[i]? with
      | some (.lst ds) => some (false, ds)
      | _ => none) = some (true, ds) := e
    split at e <;> cases e
  | _ => cases e
theorem sqK_lst {x : D} {μ : Mu} {ds : List D} (e : sqK x μ = some (false, ds)) : x = .lst ds ∨ ∃ i, x = .cell i ∧ μ[i]? = some (.lst ds) := by
  cases x with
  | tup xs => cases e
  | lst xs => cases e; exact .inl rfl
  | cell i =>
    have e : (match μ[i]? with
      | some (.lst ds) => some (false, ds)
      | _ => none) = some (false, ds) := e
    split at e
    · rename_i h
      cases e
      exact .inr ⟨i, rfl, h⟩
    · cases e
  | _ => cases e
/-- a list, wherever it stands -/
theorem lst_read {x : D} {μ : Mu} {ds : List D} {ι : List Addr} {M H : Hp} {v : V} (S' : Sto X.K G ι M H μ) (e : sqK x μ = some (false, ds)) (r : Rep X.K G ι M v x) : ∃ a xs, v = .ref a ∧ H a = some (.lst xs) ∧ Reps X.K G ι M xs ds := by
  rcases sqK_lst e with rfl | ⟨i, rfl, h⟩
  · obtain ⟨a, xs, rfl, h1, h2⟩ := rep_lst r
    exact ⟨a, xs, rfl, S'.fz _ _ h1, h2⟩
  · obtain ⟨a, xs, rfl, _, h1, h2⟩ := S'.lst h r
    exact ⟨a, xs, rfl, h1, h2⟩
theorem seq_same {el : D → D → Option Bool} {μ : Mu} (h : ElS X G el μ) {pins : List (Addr × Obj)} {s : Shared} {σ : L2.St} {ι : List Addr} {M H : Hp} (I : Inv X pins σ H s) (S' : Sto X.K G ι M H μ) : ∀ {vs : List V} {as bs : List D} {b : Bool}, Reps X.K G ι M vs as → Reps X.K G ι M vs bs → eqSeq el as bs = some b → b = true
  | [], as, bs, b, r, q, e => by cases r; cases q; cases e; rfl
  | v :: vs, as, bs, b, r, q, e => by
    cases r with
    | cons r1 rr =>
      cases q with
      | cons q1 qq =>
        rw [eqSeq] at e
        split at e
        · exact seq_same h I S' rr qq e
        · rename_i e1
          cases h pins s σ ι M H _ _ _ _ I S' r1 q1 e1
        · cases e
theorem elS_K {el : D → D → Option Bool} {μ : Mu} (h : ElS X G el μ) : ElS X G (fun x y => eqK el x y μ) μ := by
  intro pins s σ ι M H x y v b I S' rx ry e
  dsimp only at e
  unfold eqK at e
  split at e
  · rename_i as bs e1 e2
    cases sqK_tup e1
    cases sqK_tup e2
    obtain ⟨a, xs, rfl, t1, r1⟩ := rep_tup rx
    obtain ⟨a', ys, e3, t2, r2⟩ := rep_tup ry
    cases e3
    have := I.tuple_inj (t1.ext S'.fz) (t2.ext S'.fz)
    subst this
    exact seq_same h I S' r1 r2 e
  · rename_i as bs e1 e2
    obtain ⟨a, xs, rfl, t1, r1⟩ := lst_read S' e1 rx
    obtain ⟨a', ys, e3, t2, r2⟩ := lst_read S' e2 ry
    cases e3
    rw [t1] at t2
    cases t2
    rw [if_pos (by rw [← r1.length, ← r2.length])] at e
    exact seq_same h I S' r1 r2 e
  · cases e
/-- a turn of the loop over the items -/
theorem turnB {n : Nat} {el : D → D → Option Bool} {μ : Mu} (h : EqB X G n el μ) {A : Around} (sb : L2.Sub X (n + 1) A) {pins : List (Addr × Obj)} {σ : L2.St} {ι ι1 : List Addr} {M M1 H1 : Hp} {s' : Shared} {xs ys : List V} {as bs : List D} {its its2 : List Value} {b : Bool} (I1 : Inv X pins σ H1 s') (p1 : Pre ι ι1) (x1 : Ex M M1) (S1 : Sto X.K G ι1 M1 H1 μ)
    (q1 : Reps X.K G ι1 M1 xs as) (q2 : Reps X.K G ι1 M1 ys bs) (r : Vals xs its) (r2 : Vals ys its2) (i : Nat) (h1 : i < its.toArray.size) (h2 : i < its2.toArray.size) (e : eqSeq el (as.drop i) (bs.drop i) = some b) :
    wpAny (model X.prog X.w) A.in1 (eqBool its.toArray[i] its2.toArray[i]) (fun r s2 => if r = true then Kp X G pins σ ι M μ s2 ∧ eqSeq el (as.drop (i + 1)) (bs.drop (i + 1)) = some b else Kp X G pins σ ι M μ s2 ∧ b = false) X.xe s' := by
  have g1 : its[i]? = some its.toArray[i] := by
    have h1' : i < its.length := by simpa using h1
    rw [List.getElem?_eq_getElem h1'] <;> simp
  have g2 : its2[i]? = some its2.toArray[i] := by
    have h2' : i < its2.length := by simpa using h2
    rw [List.getElem?_eq_getElem h2'] <;> simp
  have k1 : i < xs.length := by rw [r.length]; simpa using h1
  have k2 : i < ys.length := by rw [r2.length]; simpa using h2
  obtain ⟨u, hu, ru⟩ := r.get (List.getElem?_eq_getElem k1)
  obtain ⟨v, hv, rv⟩ := r2.get (List.getElem?_eq_getElem k2)
  rw [g1] at hu
  rw [g2] at hv
  rw [Option.some.inj hu, Option.some.inj hv]
  obtain ⟨d, hd, rd⟩ := q1.get (List.getElem?_eq_getElem k1)
  obtain ⟨d', hd', rd'⟩ := q2.get (List.getElem?_eq_getElem k2)
  have m1 : i < as.length := (List.getElem?_eq_some_iff.mp hd).1
  have m2 : i < bs.length := (List.getElem?_eq_some_iff.mp hd').1
  have w1 : as[i] = d := (List.getElem?_eq_some_iff.mp hd).2
  have w2 : bs[i] = d' := (List.getElem?_eq_some_iff.mp hd').2
  rw [List.drop_eq_getElem_cons m1, List.drop_eq_getElem_cons m2, w1, w2, eqSeq] at e
  cases ee : el d d' with
  | none => rw [ee] at e; cases e
  | some b' =>
    rw [ee] at e
    refine wpAny_mono (h A.in1 pins s' σ ι1 M1 H1 _ _ _ _ u v b' sb.in1 I1 ru rv S1 rd rd' ee) (fun r s2 q => ?_) fun _ _ x => x
    obtain ⟨rfl, ι2, M2, H2, I2, p2, x2, S2⟩ := q
    have kp : Kp X G pins σ ι M μ s2 := ⟨ι2, M2, H2, I2, p1.trans p2, x1.trans x2, S2⟩
    cases r with
    | true => rw [if_pos rfl]; exact ⟨kp, e⟩
    | false =>
      rw [if_neg (by decide)]
      cases e
      exact ⟨kp, rfl⟩
theorem eqSeq_end {el : D → D → Option Bool} {as bs : List D} {b : Bool} (e : eqSeq el (as.drop (min as.length bs.length)) (bs.drop (min as.length bs.length)) = some b) : (as.length == bs.length) = b := by
  rcases Nat.lt_trichotomy as.length bs.length with l | l | l
  · rw [Nat.min_eq_left (Nat.le_of_lt l), List.drop_length] at e
    have : ∃ d ds, bs.drop as.length = d :: ds := by
      cases h : bs.drop as.length with
      | nil => have := congrArg List.length h; simp at this; omega
      | cons d ds => exact ⟨d, ds, rfl⟩
    obtain ⟨d, ds, h⟩ := this
    rw [h] at e
    cases e
    simp; omega
  · rw [l, Nat.min_self, ← l, List.drop_length, l, List.drop_length] at e
    cases e
    simp [l]
  · rw [Nat.min_eq_right (Nat.le_of_lt l), List.drop_length] at e
    have : ∃ d ds, as.drop bs.length = d :: ds := by
      cases h : as.drop bs.length with
      | nil => have := congrArg List.length h; simp at this; omega
      | cons d ds => exact ⟨d, ds, rfl⟩
    obtain ⟨d, ds, h⟩ := this
    rw [h] at e
    cases e
    simp; omega
theorem rcB {n : Nat} {el : D → D → Option Bool} {μ : Mu} (h : EqB X G n el μ) {A : Around} {pins : List (Addr × Obj)} {s : Shared} {σ : L2.St} {ι : List Addr} {M H : Hp} {x y : D} {v u : V} {vv uu : Value} {b : Bool} (neg : Bool) (sb : L2.Sub X (n + 1) A) (I : Inv X pins σ H s) (rv : RelV v vv) (ru : RelV u uu) (S' : Sto X.K G ι M H μ) (rx : Rep X.K G ι M v x) (ry : Rep X.K G ι M u y) (e : eqK el x y μ = some b) :
    wpAny (model X.prog X.w) A (richCompare (if neg = true then .NotEq else .Eq) vv uu) (fun r s' => r = .bool (neg != b) ∧ Kp X G pins σ ι M μ s') X.xe s := by
  unfold eqK at e
  split at e
  · rename_i as bs e1 e2
    cases sqK_tup e1
    cases sqK_tup e2
    obtain ⟨a, xs, rfl, t1, r1⟩ := rep_tup rx
    obtain ⟨a', ys, rfl, t2, r2⟩ := rep_tup ry
    cases rv
    cases ru
    obtain ⟨its, v1, f1, _⟩ := I.tuple (t1.ext S'.fz)
    obtain ⟨its2, v2, f2, _⟩ := I.tuple (t2.ext S'.fz)
    have s1 : its.toArray.size = as.length := by rw [List.size_toArray, ← v1.length, r1.length]
    have s2 : its2.toArray.size = bs.length := by rw [List.size_toArray, ← v2.length, r2.length]
    have tn : ∀ i (h1 : i < its.toArray.size) (h2 : i < its2.toArray.size) s', (Kp X G pins σ ι M μ s' ∧ eqSeq el (as.drop i) (bs.drop i) = some b) → wpAny (model X.prog X.w) A.in1 (eqBool its.toArray[i] its2.toArray[i]) (fun r s2 => if r = true then (Kp X G pins σ ι M μ s2 ∧ eqSeq el (as.drop (i + 1)) (bs.drop (i + 1)) = some b) else (Kp X G pins σ ι M μ s2 ∧ b = false)) X.xe s' := fun i h1 h2 s' q => by
      obtain ⟨⟨ι1, M1, H1, I1, p1, x1, S1⟩, q⟩ := q
      exact turnB h sb I1 p1 x1 S1 (r1.mono p1 x1) (r2.mono p1 x1) v1 v2 i h1 h2 q
    have st : Kp X G pins σ ι M μ s ∧ eqSeq el (as.drop 0) (bs.drop 0) = some b := ⟨⟨ι, M, H, I, Pre.refl _, Ext.rfl', S'⟩, e⟩
    cases neg with
    | false =>
      refine GQ2.rc_tup_eqB sb.room.units0 (fun i s' => Kp X G pins σ ι M μ s' ∧ eqSeq el (as.drop i) (bs.drop i) = some b) (fun s' => Kp X G pins σ ι M μ s' ∧ b = false) f1 f2 tn (fun s' q => ?_) (fun s' q => ?_) st
      · rw [s1, s2] at q ⊢
        exact ⟨by rw [eqSeq_end q.2, Bool.false_bne], q.1⟩
      · exact ⟨by rw [q.2]; rfl, q.1⟩
    | true =>
      refine GQ2.rc_tup_neB sb.room.units0 (fun i s' => Kp X G pins σ ι M μ s' ∧ eqSeq el (as.drop i) (bs.drop i) = some b) (fun s' => Kp X G pins σ ι M μ s' ∧ b = false) f1 f2 tn (fun s' q => ?_) (fun s' q => ?_) st
      · rw [s1, s2] at q ⊢
        exact ⟨by rw [bne, eqSeq_end q.2, Bool.true_bne], q.1⟩
      · exact ⟨by rw [q.2]; rfl, q.1⟩
  · rename_i as bs e1 e2
    obtain ⟨a, xs, rfl, t1, r1⟩ := lst_read S' e1 rx
    obtain ⟨a', ys, rfl, t2, r2⟩ := lst_read S' e2 ry
    cases rv
    cases ru
    by_cases hl : as.length = bs.length
    · rw [if_pos hl] at e
      have rd : ∀ s', Kp X G pins σ ι M μ s' → ∃ (ι1 : List Addr) (M1 H1 : Hp) (xs ys : List V) (its its2 : List Value), Inv X pins σ H1 s' ∧ Pre ι ι1 ∧ Ex M M1 ∧ Sto X.K G ι1 M1 H1 μ ∧ Reps X.K G ι1 M1 xs as ∧ Reps X.K G ι1 M1 ys bs ∧ Vals xs its ∧ Vals ys its2 ∧ GQ2.Two a a' as.length s' its.toArray its2.toArray := fun s' kp => by
        obtain ⟨ι1, M1, H1, I1, p1, x1, S1⟩ := kp
        obtain ⟨_, xs, ex, h1, q1⟩ := lst_read S1 e1 (rx.mono p1 x1)
        cases ex
        obtain ⟨_, ys, ey, h2, q2⟩ := lst_read S1 e2 (ry.mono p1 x1)
        cases ey
        obtain ⟨z, its, k1, v1, g1⟩ := I1.hok a _ h1
        obtain ⟨z2, its2, k2, v2, g2⟩ := I1.hok a' _ h2
        exact ⟨ι1, M1, H1, xs, ys, its, its2, I1, p1, x1, S1, q1, q2, v1, v2, k1, k2, g1, g2, by rw [List.size_toArray, ← v1.length, q1.length], by rw [List.size_toArray, ← v2.length, q2.length, hl]⟩
      have lj : GQ2.ListJ X.prog X.w A X.xe a a' as.length (fun i s' => Kp X G pins σ ι M μ s' ∧ eqSeq el (as.drop i) (bs.drop i) = some b) (fun s' => Kp X G pins σ ι M μ s' ∧ b = false) := fun i s' q => by
        obtain ⟨ι1, M1, H1, xs, ys, its, its2, I1, p1, x1, S1, q1, q2, v1, v2, tw⟩ := rd s' q.1
        refine ⟨its.toArray, its2.toArray, tw, fun h1 h2 => ?_⟩
        refine wpAny_mono (turnB h sb I1 p1 x1 S1 q1 q2 v1 v2 i h1 h2 q.2) (fun r s2 z => ?_) fun _ _ x => x
        cases r with
        | true => rw [if_pos rfl] at z ⊢; exact z
        | false =>
          rw [if_neg (by decide)] at z ⊢
          obtain ⟨_, _, _, _, _, its, its2, _, _, _, _, _, _, _, _, tw⟩ := rd s2 z.1
          exact ⟨z, its.toArray, its2.toArray, tw⟩
      have st : Kp X G pins σ ι M μ s ∧ eqSeq el (as.drop 0) (bs.drop 0) = some b := ⟨⟨ι, M, H, I, Pre.refl _, Ext.rfl', S'⟩, e⟩
      have en : ∀ s', (Kp X G pins σ ι M μ s' ∧ eqSeq el (as.drop as.length) (bs.drop as.length) = some b) → b = true := fun s' q => by
        have := eqSeq_end (el := el) (as := as) (bs := bs) (b := b) (by rw [← hl, Nat.min_self]; exact q.2)
        rw [hl, beq_self_eq_true] at this
        exact this.symm
      cases neg with
      | false =>
        refine GQ2.rc_list_eqB sb.room.units0 _ _ lj (fun s' q => ?_) (fun s' q => ?_) st
        · exact ⟨by rw [en s' q]; rfl, q.1⟩
        · exact ⟨by rw [q.2]; rfl, q.1⟩
      | true =>
        refine GQ2.rc_list_neB sb.room.units0 _ _ lj (fun s' q => ?_) (fun s' q => ?_) st
        · exact ⟨by rw [en s' q]; rfl, q.1⟩
        · exact ⟨by rw [q.2]; rfl, q.1⟩
    · rw [if_neg hl] at e
      cases e
      obtain ⟨z, its, k1, v1, g1⟩ := I.hok a _ t1
      obtain ⟨z2, its2, k2, v2, g2⟩ := I.hok a' _ t2
      have hs : (its.toArray.size != its2.toArray.size) = true := by
        rw [List.size_toArray, List.size_toArray, ← v1.length, r1.length, ← v2.length, r2.length]
        simpa using hl
      have kp : Kp X G pins σ ι M μ s := ⟨ι, M, H, I, Pre.refl _, Ext.rfl', S'⟩
      cases neg with
      | false => exact SeqAt.RcAt.lists_lengths ⟨_, g1, rfl, k1, rfl⟩ ⟨_, g2, rfl, k2, rfl⟩ hs sb.room.units0 X.prog X.w X.xe _ ⟨rfl, kp⟩
      | true => exact SeqAt.RcNeAt.lists_lengths ⟨_, g1, rfl, k1, rfl⟩ ⟨_, g2, rfl, k2, rfl⟩ hs sb.room.units0 X.prog X.w X.xe _ ⟨rfl, kp⟩
  · cases e
theorem eqB_K {n : Nat} {el : D → D → Option Bool} {μ : Mu} (h : EqB X G n el μ) (hs : ElS X G el μ) : EqB X G (n + 1) (fun x y => eqK el x y μ) μ := by
  intro A pins s σ ι M H x y v u vv uu b sb I rv ru S' rx ry e
  have e : eqK el x y μ = some b := e
  have rf : (∃ a, v = .ref a) ∧ ∃ a, u = .ref a := by
    have e := e
    unfold eqK at e
    split at e
    · rename_i e1 e2
      cases sqK_tup e1
      cases sqK_tup e2
      obtain ⟨a, _, rfl, _⟩ := rep_tup rx
      obtain ⟨a', _, rfl, _⟩ := rep_tup ry
      exact ⟨⟨_, rfl⟩, _, rfl⟩
    · rename_i e1 e2
      obtain ⟨a, _, rfl, _⟩ := lst_read S' e1 rx
      obtain ⟨a', _, rfl, _⟩ := lst_read S' e2 ry
      exact ⟨⟨_, rfl⟩, _, rfl⟩
    · cases e
  obtain ⟨⟨a, rfl⟩, a', rfl⟩ := rf
  have q := rcB h false sb I rv ru S' rx ry e
  by_cases hab : a = a'
  · subst hab
    cases rv
    cases ru
    have hb := elS_K hs pins s σ ι M H x y (.ref a) b I S' rx ry e
    subst hb
    exact SeqAt.EqAt.same (A := A) (s := s) (.ref a) X.prog X.w X.xe _ ⟨rfl, ι, M, H, I, Pre.refl _, Ext.rfl', S'⟩
  · cases rv
    cases ru
    refine GQ.eqBool_refG hab (wpAny_mono q (fun r s' z => ?_) fun _ _ x => x)
    exact ⟨b, by rw [z.1, Bool.false_bne], rfl, z.2⟩
theorem eqB_E (T : TbX X G S fd k run) (tk : Takes X W) {μ : Mu} : ∀ n, EqB X G (k + n) (fun x y => eqE S run n x y μ) μ ∧ ElS X G (fun x y => eqE S run n x y μ) μ
  | 0 => ⟨eqB_I T tk, elS_I⟩
  | n + 1 => by
    obtain ⟨h1, h2⟩ := eqB_E T tk (μ := μ) n
    refine ⟨fun A pins s σ ι M H x y v u vv uu b sb I rv ru S' rx ry e => ?_, fun pins s σ ι M H x y v b I S' rx ry e => ?_⟩
    · have e : (match sqK x μ, sqK y μ with
        | none, none => eqI S run x y μ
        | _, _ => eqK (fun x y => eqE S run n x y μ) x y μ) = some b := e
      split at e
      · exact (eqB_I T tk).mono (by omega) A pins s σ ι M H x y v u vv uu b sb I rv ru S' rx ry e
      · exact eqB_K h1 h2 A pins s σ ι M H x y v u vv uu b sb I rv ru S' rx ry e
    · have e : (match sqK x μ, sqK y μ with
        | none, none => eqI S run x y μ
        | _, _ => eqK (fun x y => eqE S run n x y μ) x y μ) = some b := e
      split at e
      · exact elS_I (S := S) (run := run) pins s σ ι M H x y v b I S' rx ry e
      · exact elS_K h2 pins s σ ι M H x y v b I S' rx ry e
theorem fin_eqQ {neg : Bool} {x y : D} {μ : Mu} {σ : L2.St} {ι : List Addr} {M : Hp} {Q : VK} (q : FinD X G W σ ι M (eqQ S run neg x y μ) Q) : ∃ b, eqK (fun x y => eqE S run 1 x y μ) x y μ = some b ∧ FinD X G W σ ι M (.ok (.bl (neg != b)) μ) Q := by
  unfold eqQ at q
  cases e : eqK (fun x y => eqE S run 1 x y μ) x y μ with
  | none => rw [e] at q; exact q.elim
  | some b => rw [e] at q; exact ⟨b, rfl, q⟩
theorem og_eqQ (T : TbX X G S fd k run) (hr : Room (k + 2) X.A) (tk : Takes X W) (neg : Bool) : OpG X G W (fun v u => richCompare (if neg = true then .NotEq else .Eq) v u) (eqQ S run neg) := by
  intro pins s σ ι M H μ x y v u vv uu Q I rv ru S' rx ry q
  obtain ⟨b, e, q⟩ := fin_eqQ q
  refine wpAny_mono (rcB (n := k + 1) (eqB_E T tk (μ := μ) 1).1 neg ⟨hr, rfl⟩ I rv ru S' rx ry e) (fun r s' z => ?_) fun _ _ x => x
  obtain ⟨rfl, ι', M', H', I', p, x, S''⟩ := z
  exact ⟨.bl (neg != b), H', I', rfl, q.at p x S'' _ .bl⟩
theorem fin_eqP {neg : Bool} {x y : D} {μ : Mu} {σ : L2.St} {ι : List Addr} {M : Hp} {Q : VK} (q : FinD X G W σ ι M (eqP S run neg x y μ) Q) : (∃ p r, pyC μ x = some p ∧ pyC μ y = some r ∧ SeqAt.shaped p = true ∧ SeqAt.shaped r = true ∧ FinD X G W σ ι M (.ok (.bl (neg != PyData.eqv p r)) μ) Q) ∨ FinD X G W σ ι M (eqQ S run neg x y μ) Q := by
  unfold eqP at q
  cases e1 : pyC μ x with
  | none => rw [e1] at q; exact .inr q
  | some p =>
    cases e2 : pyC μ y with
    | none => rw [e1, e2] at q; exact .inr q
    | some r =>
      rw [e1, e2] at q
      obtain ⟨h, q⟩ := fin_if q
      obtain ⟨h1, h2⟩ := Bool.and_eq_true_iff.mp h
      exact .inl ⟨p, r, rfl, rfl, h1, h2, q⟩
theorem og_eqO (T : TbX X G S fd k run) (hr : Room (k + 2) X.A) (tk : Takes X W) (o : CmpOp) : OpG X G W (compareOp o) (eqO S run o) := by
  intro pins s σ ι M H μ x y v u vv uu Q I rv ru S' rx ry q
  have hu : X.A.units + 64 < cLine := by have := hr.un; omega
  cases o with
  | Eq =>
    have q : FinD X G W σ ι M (eqX S run false x y μ) Q := q
    unfold eqX at q
    by_cases h : (isSeqD x || isSeqD y) = true
    · rw [if_pos h] at q
      rcases fin_eqP q with ⟨p, r, e1, e2, h1, h2, q⟩ | q
      · exact (op_eqD hu) pins s σ H v u vv uu Q I rv ru ⟨p, r, pyc_dp S' rx e1, pyc_dp S' ry e2, h1, h2, by have := q.ok S' _ .bl; simpa using this⟩
      · exact og_eqQ T hr tk false pins s σ ι M H μ x y v u vv uu Q I rv ru S' rx ry q
    · rw [if_neg h] at q
      exact OpG.of op_eqN op2_eqS pins s σ ι M H μ _ _ v u vv uu Q I rv ru S' rx ry q
  | NotEq =>
    have q : FinD X G W σ ι M (eqX S run true x y μ) Q := q
    unfold eqX at q
    by_cases h : (isSeqD x || isSeqD y) = true
    · rw [if_pos h] at q
      rcases fin_eqP q with ⟨p, r, e1, e2, h1, h2, q⟩ | q
      · exact (op_neD hu) pins s σ H v u vv uu Q I rv ru ⟨p, r, pyc_dp S' rx e1, pyc_dp S' ry e2, h1, h2, by have := q.ok S' _ .bl; simpa using this⟩
      · exact og_eqQ T hr tk true pins s σ ι M H μ x y v u vv uu Q I rv ru S' rx ry q
    · rw [if_neg h] at q
      exact OpG.of op_neN op2_eqS pins s σ ι M H μ _ _ v u vv uu Q I rv ru S' rx ry q
  | _ => exact q.elim
theorem og_cmpB (T : TbX X G S fd k run) (hr : Room (k + 2) X.A) (tk : Takes X W) (o : CmpOp) : OpG X G W (compareOp o) (cmpB S run o) := by
  intro pins s σ ι M H μ x y v u vv uu Q I rv ru S' rx ry q
  cases hx : isIntD x with
  | true =>
    obtain ⟨i, rfl⟩ := int_of hx
    cases hy : isIntD y with
    | true =>
      obtain ⟨j, rfl⟩ := int_of hy
      exact og_intC o pins s σ ι M H μ _ _ v u vv uu Q I rv ru S' rx ry q
    | false =>
      have e : cmpB S run o (.int i) y μ = (match insOf y μ with
        | some (c, _) => cmpIO S run o i y c μ
        | none => eqO S run o (.int i) y μ) := by cases y <;> first | rfl | (simp [isIntD] at hy; done)
      rw [e] at q
      cases ey : insOf y μ with
      | none =>
        rw [ey] at q
        exact og_eqO T hr tk o pins s σ ι M H μ _ _ v u vv uu Q I rv ru S' rx ry q
      | some p =>
        obtain ⟨c, gs⟩ := p
        rw [ey] at q
        dsimp only at q
        unfold cmpIO at q
        cases er : cmpRev o with
        | none => rw [er] at q; exact q.elim
        | some m =>
          rw [er] at q
          obtain ⟨ho, q⟩ := fin_if q
          obtain ⟨f, Ow, mt, _, _, q⟩ := mrun_at T q
          obtain ⟨mm, fr⟩ := inv_fr I
          obtain ⟨b, oy, od, rfl, rfl, pl, J⟩ := S'.inst I ey ry ru
          cases rep_int rx
          obtain ⟨t, rfl⟩ := rv
          have hop : compareOp o (.int i t) (.ref b) = richCompare o (.int i t) (.ref b) := by cases o <;> first | rfl | cases er
          have hm : (cmpInfo o).2.2 = m := by cases o <;> first | (cases er; rfl) | cases er
          have hl : o ∈ [CmpOp.Lt, .LtE, .Gt, .GtE, .Eq] := by cases o <;> first | (simp; done) | cases er
          rw [hop]
          refine cmp_int_own hl (by have := hr.un; omega) fr I.ok.mod.kin J pl (T.opc c ho).s1 (by rw [hm]; exact mt.at_) mt.fn ?_
          exact thn (Ow.run (hr.mono (by omega)) tk I S' (.cons (rr b) (.cons (ri i t) .nil)) (.cons ry (.cons rx .nil)) q) fun u s' h => back_of h
  | false =>
    have e : cmpB S run o x y μ = eqO S run o x y μ := by cases x <;> first | rfl | (simp [isIntD] at hx; done)
    rw [e] at q
    exact og_eqO T hr tk o pins s σ ι M H μ _ _ v u vv uu Q I rv ru S' rx ry q
/-! x in xs -/
theorem reps_in (hx : flatD x = true) (r : Rep X.K G ι M v x) : ∀ {xs : List V} {ds : List D}, ds.all flatD = true → Reps X.K G ι M xs ds → xs.all flatV = true ∧ inV v xs = inD x ds
  | _, [], _, q => by cases q; exact ⟨rfl, rfl⟩
  | _, d :: ds, h, q => by
    cases q with
    | cons q1 qq =>
      obtain ⟨h1, h2⟩ := Bool.and_eq_true_iff.mp (show (flatD d && ds.all flatD) = true from h)
      obtain ⟨i1, i2⟩ := reps_in hx r h2 qq
      refine ⟨?_, ?_⟩
      · rw [List.all_cons, rep_flat h1 q1, i1]; rfl
      · show (eqV _ v || inV v _) = (eqF d x || inD x ds)
        rw [i2, rep_eqF h1 hx q1 r]
theorem sign_at {a : Str} {c : Nat} (h : signOf a = some c) : a = ⟨#[c]⟩ := by
  obtain ⟨cps⟩ := a
  unfold signOf at h
  split at h
  · rename_i c' e
    cases h
    have z : cps = #[c] := Array.toList_inj.mp (by simpa using e)
    rw [z]
  · cases h
theorem og_in {neg : Bool} {o : CmpOp} (h1 : OpR X (compareOp o) (rIn X.K neg)) (h2 : OpR X (compareOp o) (fun x y H Q => ∃ (c : Nat) (z : Str), x = .str ⟨#[c]⟩ ∧ y = .str z ∧ Q (.bl (neg != decide (c ∈ z.cps.toList))) H)) : OpG X G W (compareOp o) (inS neg) := by
  intro pins s σ ι M H μ x y v u vv uu Q I rv ru S' rx ry q
  unfold inS at q
  cases e : seqOf y μ with
  | some ds =>
    rw [e] at q
    dsimp only at q
    obtain ⟨c, q⟩ := fin_if q
    obtain ⟨c1, c2⟩ := Bool.and_eq_true_iff.mp c
    obtain ⟨a, xs, rfl, rs, k⟩ := seq_sq S' ry e
    obtain ⟨i1, i2⟩ := reps_in c1 rx c2 rs
    refine h1 pins s σ H _ _ _ _ Q I rv ru ⟨a, xs, rfl, k, rep_flat c1 rx, i1, ?_⟩
    have q2 := q.ok S' _ .bl
    rw [i2]
    cases neg with
    | true => rw [Bool.true_bne] at q2; exact q2
    | false => rw [Bool.false_bne] at q2; exact q2
  | none =>
    rw [e] at q
    dsimp only at q
    unfold inT at q
    split at q
    · rename_i a z
      split at q
      · rename_i c e2
        cases rep_str rx
        cases rep_str ry
        rw [sign_at e2] at rv
        exact h2 pins s σ H _ _ _ _ Q I rv ru ⟨c, z, rfl, rfl, q.ok S' _ .bl⟩
      · exact q.elim
    · exact q.elim
theorem cmpS_main {o : CmpOp} {x y : D} {μ : Mu} (hI : o ≠ .Is) (hN : o ≠ .IsNot) (h1 : o ≠ .In := by decide) (h2 : o ≠ .NotIn := by decide) : cmpS S run o x y μ = (match insOf x μ with
    | some (c, _) => (match cmpDun o with
      | some m => cmpOwn S run c m x y μ
      | none => .stuck)
    | none => cmpB S run o x y μ) := by
  cases o <;> first | rfl | exact absurd rfl hI | exact absurd rfl hN | exact absurd rfl h1 | exact absurd rfl h2
theorem og_cmp (T : TbX X G S fd k run) (hr : Room (k + 2) X.A) (tk : Takes X W) (o : CmpOp) : OpG X G W (compareOp o) (cmpS S run o) := by
  intro pins s σ ι M H μ x y v u vv uu Q I rv ru S' rx ry q
  by_cases hI : o = .Is
  · subst hI
    exact OpG.of op_isN op2_isN pins s σ ι M H μ x y v u vv uu Q I rv ru S' rx ry q
  by_cases hN : o = .IsNot
  · subst hN
    exact OpG.of op_notN op2_notN pins s σ ι M H μ x y v u vv uu Q I rv ru S' rx ry q
  by_cases h1 : o = .In
  · subst h1
    exact og_in op_in_seq (fun pins s σ H x y v u Q I rx ry ⟨c, z, e1, e2, q⟩ => op_in_sign pins s σ H x y v u Q I rx ry ⟨c, z, e1, e2, by simpa using q⟩) pins s σ ι M H μ x y v u vv uu Q I rv ru S' rx ry q
  by_cases h2 : o = .NotIn
  · subst h2
    exact og_in op_notIn_seq (fun pins s σ H x y v u Q I rx ry ⟨c, z, e1, e2, q⟩ => op_notIn_sign pins s σ H x y v u Q I rx ry ⟨c, z, e1, e2, by simpa using q⟩) pins s σ ι M H μ x y v u vv uu Q I rv ru S' rx ry q
  rw [cmpS_main hI hN h1 h2] at q
  cases ex : insOf x μ with
  | some p =>
    obtain ⟨c, fs⟩ := p
    rw [ex] at q
    dsimp only at q
    cases em : cmpDun o with
    | none => rw [em] at q; exact q.elim
    | some m =>
      rw [em] at q
      exact cmp_own T (hr.mono (by omega)) tk em I rv ru S' rx ry ex q
  | none =>
    rw [ex] at q
    exact og_cmpB T hr tk o pins s σ ι M H μ _ _ v u vv uu Q I rv ru S' rx ry q
end
end L3

set_option maxRecDepth 100000
set_option maxHeartbeats 2000000
/-! L4d: built-in calls, attributes, methods, calls, new objects, on data. -/
namespace L3
open PySem PySem.Spec PyProof.Rows L2
section
variable {X : Cx} {G : Gx} {W : WX} {S : Sig} {fd : Nat → FuncData} {k : Nat} {run : Nat → List D → PM D}
variable {pins : List (Addr × Obj)} {s : Shared} {σ : L2.St} {ι : List Addr} {M H : Hp} {μ : Mu} {x y : D} {v u : V} {vv uu : Value} {Q : VK}
/-! ### isinstance -/
theorem clsin (T : TbX X G S fd k run) {c : Nat} (h : okT S (.c c) = true) : ∃ ci, S.cs[c]? = some ci ∧ ci.pl = true := by
  have h2 : (match S.cs[c]? with
    | some ci => ci.pl
    | none => false) = true := h
  cases e : S.cs[c]? with
  | none => rw [e] at h2; cases h2
  | some ci => rw [e] at h2; exact ⟨ci, rfl, h2⟩
theorem tyx_ins (T : TbX X G S fd k run) {c : Nat} {a dx : Addr} {fs : List (Str × V)} (ok : okT S (.c c) = true) (h : H a = some (.ins (G.cA c) dx fs)) : TyX X.K H (.ref a) (.ref (G.cA c)) := by
  obtain ⟨ci, e, p⟩ := clsin T ok
  have f := T.ins c ci e p
  exact .base (.ins h f.cl f.ha f.hn f.ht f.hm)
theorem tyx_of (T : TbX X G S fd k run) (S' : Sto X.K G ι M H μ) {t : Ty} (e : tyD x μ = some t) (ok : okT S t = true) (r : Rep X.K G ι M v x) : TyX X.K H v (tval G t) := by
  have fz := S'.fz
  cases r with
  | non => cases e; exact .base .non
  | bl => cases e; exact .base (.bl _)
  | int => cases e; exact .base (.int _)
  | str => cases e; exact .base (.str _)
  | ty => cases e
  | fn => cases e
  | tup h _ =>
    cases e
    rcases h.ext fz with h | ⟨o, its, n, h1, h2, _⟩
    · rcases h with h | ⟨o, h⟩
      · exact .base (.tup h)
      · exact .fTuple h
    · exact .kTuple h1 h2
  | lst h _ => cases e; exact .base (.lst (fz _ _ h))
  | klst h _ =>
    cases e
    rcases h.ext fz with h | ⟨o, its, n, h1, h2, _⟩
    · rcases h with h | ⟨o, h⟩
      · exact .base (.lst h)
      · exact .base (.frz h)
    · exact .kList h1 h2
  | ins h _ _ =>
    cases e
    exact tyx_ins T ok (fz _ _ h)
  | cell h =>
    rename_i a i
    have e2 : (match μ[i]? with
      | some (.lst _) => some (Ty.b "list")
      | some (.dct _) => some (.b "dict")
      | some (.ins c _) => some (.c c)
      | none => none) = some t := e
    obtain ⟨c, e1, _, ck⟩ := S'.at h
    rw [e1] at e2
    cases c with
    | lst ds => cases e2; obtain ⟨xs, h1, _⟩ := ck; exact .base (.lst h1)
    | dct kds => cases e2; obtain ⟨us, h1, _⟩ := ck; exact .base (.dK h1)
    | ins c ds => cases e2; obtain ⟨dx, vs, h1, _⟩ := ck; exact tyx_ins T ok h1
theorem cls_of (T : TbX X G S fd k run) {t : Ty} (e : clsOf x = some t) (ok : okT S t = true) (r : Rep X.K G ι M v x) : ClsV v (tval G t) := by
  cases r with
  | ty => cases e; exact .ty _
  | fn =>
    rename_i n
    have e2 : (if 1000 ≤ n then some (Ty.c (n - 1000)) else none) = some t := e
    by_cases h : 1000 ≤ n
    · rw [if_pos h] at e2
      cases e2
      obtain ⟨ci, e3, _⟩ := clsin T ok
      have l := (List.getElem?_eq_some_iff.mp e3).1
      have q := T.gcl _ l
      have z : 1000 + (n - 1000) = n := by omega
      rw [z] at q
      rw [q]
      exact .own _
    · rw [if_neg h] at e2; cases e2
  | _ => cases e
theorem clss_of (T : TbX X G S fd k run) : ∀ {ts : List Ty} {ds : List D} {vs : List V}, mapO clsOf ds = some ts → ts.all (okT S) = true → Reps X.K G ι M vs ds → Paired ClsV vs (ts.map (tval G))
  | ts, [], vs, e, _, r => by
    cases e
    cases r
    exact .nil
  | ts, d :: ds, vs, e, a, r => by
    cases r with
    | cons r1 rr =>
      unfold mapO at e
      cases q1 : clsOf d with
      | none => rw [q1] at e; cases e
      | some t =>
        rw [q1] at e
        dsimp only at e
        cases q2 : mapO clsOf ds with
        | none => rw [q2] at e; cases e
        | some ts' =>
          rw [q2] at e
          cases e
          rw [List.all_cons, Bool.and_eq_true] at a
          exact .cons (cls_of T q1 a.1 r1) (clss_of T q2 a.2 rr)
theorem kit_any (T : TbX X G S fd k run) {t : Ty} (ok : okT S t = true) : ∀ {ts : List Ty}, ts.all (okT S) = true → PySem.W.kitAny X.K (tval G t) (ts.map (tval G)) = some (ts.any (isiT t))
  | [], _ => rfl
  | u :: ts, a => by
    rw [List.all_cons, Bool.and_eq_true] at a
    have e := T.kit t u ok a.1
    have ih := kit_any T ok a.2
    show (match PySem.W.kitOne X.K (tval G t) (tval G u) with
      | some true => some true
      | some false => PySem.W.kitAny X.K (tval G t) (ts.map (tval G))
      | none => none) = some (isiT t u || ts.any (isiT t))
    rw [e, ih]
    cases isiT t u <;> rfl
theorem reps_two {vs : List V} {us : List Value} {x y : D} (r : Reps X.K G ι M vs [x, y]) (rv : Vals vs us) : ∃ v u vv uu, vs = [v, u] ∧ us = [vv, uu] ∧ RelV v vv ∧ RelV u uu ∧ Rep X.K G ι M v x ∧ Rep X.K G ι M u y := by
  obtain ⟨v, u, rfl, r1, r2⟩ := reps2 r
  obtain ⟨vv, uu, rfl, q1, q2⟩ := vals2 rv
  exact ⟨v, u, vv, uu, rfl, rfl, q1, q2, r1, r2⟩
theorem reps_one {vs : List V} {us : List Value} {x : D} (r : Reps X.K G ι M vs [x]) (rv : Vals vs us) : ∃ v vv, vs = [v] ∧ us = [vv] ∧ RelV v vv ∧ Rep X.K G ι M v x := by
  obtain ⟨v, rfl, r1⟩ := reps1 r
  obtain ⟨vv, rfl, q1⟩ := vals1 rv
  exact ⟨v, vv, rfl, rfl, q1, r1⟩
theorem isi_run (T : TbX X G S fd k run) (I : Inv X pins σ H s) (rv : RelV v vv) (ru : RelV u uu) (S' : Sto X.K G ι M H μ) (rx : Rep X.K G ι M v x) (ry : Rep X.K G ι M u y) (q : FinD X G W σ ι M (isiS S x y μ) Q) :
    wpAny (model X.prog X.w) X.A (call (.builtin "isinstance") [vv, uu]) (EP X pins σ Q) X.xe s := by
  unfold isiS at q
  cases e1 : tyD x μ with
  | none => rw [e1] at q; exact q.elim
  | some t =>
    cases e2 : clsOfs y with
    | none => rw [e1, e2] at q; exact q.elim
    | some ts =>
      rw [e1, e2] at q
      obtain ⟨h, q⟩ := fin_if q
      obtain ⟨h1, h2⟩ := Bool.and_eq_true_iff.mp h
      have q2 : Q (.bl (ts.any (isiT t))) H := q.ok S' _ .bl
      have tx := tyx_of T S' e1 h1 rx
      obtain ⟨P, Z, p, hx⟩ := kit_of I rv tx
      have one : ∀ t', clsOf y = some t' → ts = [t'] → wpAny (model X.prog X.w) X.A (call (.builtin "isinstance") [vv, uu]) (EP X pins σ Q) X.xe s := fun t' e3 e4 => by
        subst e4
        have o : okT S t' = true := by simpa using h2
        have cv := cls_of T e3 o ry
        have e5 := cv.eq ru
        subst e5
        refine PySem.W.kia_one Z I.kIn p (T.kit t t' h1 o) hx fun tk => ⟨.bl _, H, I.tok tk, rfl, ?_⟩
        simpa using q2
      have two : ∀ ds, y = .tup ds → wpAny (model X.prog X.w) X.A (call (.builtin "isinstance") [vv, uu]) (EP X pins σ Q) X.xe s := fun ds e3 => by
        subst e3
        obtain ⟨a, xs, rfl, ht, rs⟩ := rep_tup ry
        have cs := clss_of T e2 h2 rs
        obtain ⟨its, rr, ⟨o, h3, h4, n, h5⟩, _⟩ := I.tuple (ht.ext S'.fz)
        have e6 := ClsV.all cs rr
        subst e6
        obtain ⟨oc, od, dt, sl⟩ := o
        simp only at h4 h5
        subst h4 h5
        cases ru
        exact PySem.W.kia_tup Z I.kIn p h3 (kit_any T h1 h2) hx fun tk => ⟨.bl _, H, I.tok tk, rfl, q2⟩
      cases y with
      | tup ds => exact two ds rfl
      | ty n =>
        cases e2
        exact one _ rfl rfl
      | fn n =>
        have e3 : (clsOf (.fn n)).map (fun t => [t]) = some ts := e2
        cases e4 : clsOf (.fn n) with
        | none => rw [e4] at e3; cases e3
        | some t' =>
          rw [e4] at e3
          cases e3
          exact one _ e4 rfl
      | _ => cases e2
/-! ### len, abs, int -/
theorem len_run (I : Inv X pins σ H s) (rv : RelV v vv) (S' : Sto X.K G ι M H μ) (rx : Rep X.K G ι M v x) (q : FinD X G W σ ι M (lenS x μ) Q) : wpAny (model X.prog X.w) X.A (call (.builtin "len") [vv]) (EP X pins σ Q) X.xe s := by
  have fin : ∀ n, LenV X.K v H n → Q (.int n) H → wpAny (model X.prog X.w) X.A (call (.builtin "len") [vv]) (EP X pins σ Q) X.xe s := fun n l q => call_len pins s σ H [v] [vv] Q I (.cons rv .nil) ⟨v, n, rfl, l, q⟩
  cases x with
  | str z =>
    have q2 : FinD X G W σ ι M (if z.length ≤ 1000000 then .ok (.int z.length) μ else .stuck) Q := q
    cases rep_str rx
    by_cases h : z.length ≤ 1000000
    · rw [if_pos h] at q2
      exact fin z.length ⟨line_of h, rfl⟩ (q2.ok S' _ .int)
    · rw [if_neg h] at q2; exact q2.elim
  | tup ds =>
    obtain ⟨a, xs, rfl, ht, rs⟩ := rep_tup rx
    have q2 := Fin3.ok q S'
    exact fin ds.length (.inr ⟨xs, ht.ext S'.fz, rs.length.symm⟩) (q2 _ .int)
  | lst ds =>
    obtain ⟨a, xs, rfl, ht, rs⟩ := rep_lst rx
    have q2 := Fin3.ok q S'
    exact fin ds.length (.inl ⟨xs, SqL.of (S'.fz _ _ ht), rs.length.symm⟩) (q2 _ .int)
  | klst ds =>
    obtain ⟨a, xs, rfl, ht, rs⟩ := rep_klst rx
    have q2 := Fin3.ok q S'
    exact fin ds.length (.inl ⟨xs, ht.ext S'.fz, rs.length.symm⟩) (q2 _ .int)
  | cell i =>
    have q2 : FinD X G W σ ι M (match (match μ[i]? with
      | some (.lst ds) => some ds
      | _ => none) with
      | some ds => .ok (.int ds.length) μ
      | none => .stuck) Q := q
    cases e : μ[i]? with
    | none => rw [e] at q2; exact q2.elim
    | some c =>
      rw [e] at q2
      cases c with
      | lst ds =>
        obtain ⟨a, xs, rfl, _, h, rs⟩ := S'.lst e rx
        exact fin ds.length (.inl ⟨xs, SqL.of h, rs.length.symm⟩) (Fin3.ok q2 S' _ .int)
      | _ => exact q2.elim
  | _ => exact q.elim
theorem abs_own {f : Addr} {F : List D → PM D} {c : Nat} {fs : List D} (T : Own X G k f 1 F) (mt : Meth X.K (G.cA c) "__abs__" f) (hr : Room (k + 1) X.A) (tk : Takes X W) (I : Inv X pins σ H s) (rv : RelV v vv) (S' : Sto X.K G ι M H μ) (rx : Rep X.K G ι M v x)
    (ex : insOf x μ = some (c, fs)) (q : FinD X G W σ ι M (F [x] μ) Q) : wpAny (model X.prog X.w) X.A (call (.builtin "abs") [vv]) (EP X pins σ Q) X.xe s := by
  obtain ⟨a, ox, od, rfl, rfl, _, J⟩ := S'.inst I ex rx rv
  refine PySem.Calls.call_function_entry kind_abs plain_abs entry_abs (args_abs _) ?_
  unfold Builtin.«abs»
  refine wpAny_bind (m := oneArg "abs" _) (wpAny_pure ?_)
  refine wpAny_bind (PySem.W.special_fn (args := []) I.kIn J mt.at_ (beq_iff_eq.mp mt.fn) (thn (runA T hr.in1 I.env0.in1 tk I S' (.cons (rr a) .nil) (.cons rx .nil) q) fun u s' h => ?_))
  exact wpAny_pure ⟨u, rfl, h⟩
theorem abs_run (T : TbX X G S fd k run) (hr : Room (k + 1) X.A) (tk : Takes X W) (I : Inv X pins σ H s) (rv : RelV v vv) (S' : Sto X.K G ι M H μ) (rx : Rep X.K G ι M v x) (q : FinD X G W σ ι M (absS S run x μ) Q) :
    wpAny (model X.prog X.w) X.A (call (.builtin "abs") [vv]) (EP X pins σ Q) X.xe s := by
  cases hx : isIntD x with
  | true =>
    obtain ⟨i, rfl⟩ := int_of hx
    cases rep_int rx
    exact call_abs pins s σ H [.int i] [vv] Q I (.cons rv .nil) ⟨i, rfl, Fin3.ok q S' _ .int⟩
  | false =>
    have e : absS S run x μ = (match insOf x μ with | some (c, _) => mrun S run c "__abs__" [x] μ | none => .stuck) := by
      cases x <;> first | rfl | (simp [isIntD] at hx; done)
    rw [e] at q
    obtain ⟨c, fs, ex, q⟩ := fin_ins q
    obtain ⟨f, Ow, mt, _, _, q⟩ := mrun_at T q
    exact abs_own (f := G.gA f) Ow mt hr tk I rv S' rx ex q
theorem int_run (I : Inv X pins σ H s) (rv : RelV v vv) (S' : Sto X.K G ι M H μ) (rx : Rep X.K G ι M v x) (q : FinD X G W σ ι M (toIntS x μ) Q) : wpAny (model X.prog X.w) X.A (call (.type "int") [vv]) (EP X pins σ Q) X.xe s := by
  cases x with
  | int i => cases rep_int rx; exact call_int1 pins s σ H [.int i] [vv] Q I (.cons rv .nil) (.inl ⟨i, rfl, Fin3.ok q S' _ .int⟩)
  | bl b => cases rep_bl rx; exact call_int1 pins s σ H [.bl b] [vv] Q I (.cons rv .nil) (.inr ⟨b, rfl, Fin3.ok q S' _ .int⟩)
  | str z =>
    cases rep_str rx
    have q : FinD X G W σ ι M (match PySem.intText? z with
      | some n => if z.length ≤ 640 then Res.ok (D.int n) μ else .stuck
      | none => .stuck) Q := q
    cases e : PySem.intText? z with
    | none => rw [e] at q; exact q.elim
    | some n =>
      rw [e] at q
      dsimp only at q
      by_cases l : z.length ≤ 640
      · rw [if_pos l] at q
        exact call_int_str pins s σ H [.str z] [vv] Q I (.cons rv .nil) ⟨z, n, rfl, e, l, Fin3.ok q S' _ .int⟩
      · rw [if_neg l] at q
        exact q.elim
  | _ => exact q.elim
/-! ### tuple, list, str, all -/
/-- a list or a tuple that is read -/
theorem seq_at {ds : List D} (S' : Sto X.K G ι M H μ) (rx : Rep X.K G ι M v x) (e : seqOf x μ = some ds) : ∃ a xs, v = .ref a ∧ Reps X.K G ι M xs ds ∧ ((SqT X.K M a xs ∧ x = .tup ds) ∨ (SqL X.K H a xs ∧ lstOf x μ = some ds)) := by
  cases x with
  | tup es =>
    cases e
    obtain ⟨a, xs, rfl, ht, rs⟩ := rep_tup rx
    exact ⟨a, xs, rfl, rs, .inl ⟨ht, rfl⟩⟩
  | lst es =>
    cases e
    obtain ⟨a, xs, rfl, ht, rs⟩ := rep_lst rx
    exact ⟨a, xs, rfl, rs, .inr ⟨SqL.of (S'.fz _ _ ht), rfl⟩⟩
  | klst es =>
    cases e
    obtain ⟨a, xs, rfl, ht, rs⟩ := rep_klst rx
    exact ⟨a, xs, rfl, rs, .inr ⟨ht.ext S'.fz, rfl⟩⟩
  | cell i =>
    have e2 : (match μ[i]? with
      | some (.lst ds) => some ds
      | _ => none) = some ds := e
    cases q : μ[i]? with
    | none => rw [q] at e2; cases e2
    | some c =>
      rw [q] at e2
      cases c with
      | lst es =>
        cases e2
        obtain ⟨a, xs, rfl, _, h, rs⟩ := S'.lst q rx
        exact ⟨a, xs, rfl, rs, .inr ⟨SqL.of h, e⟩⟩
      | _ => cases e2
  | _ => cases e
theorem lst_at {ds : List D} (S' : Sto X.K G ι M H μ) (rx : Rep X.K G ι M v x) (e : lstOf x μ = some ds) : ∃ a xs, v = .ref a ∧ Reps X.K G ι M xs ds ∧ SqL X.K H a xs := by
  have e2 : seqOf x μ = some ds := by
    cases x <;> first | exact e | cases e
  obtain ⟨a, xs, rfl, rs, q⟩ := seq_at S' rx e2
  rcases q with ⟨_, rfl⟩ | ⟨q, _⟩
  · cases e
  · exact ⟨a, xs, rfl, rs, q⟩
theorem tup_run (I : Inv X pins σ H s) (rv : RelV v vv) (S' : Sto X.K G ι M H μ) (rx : Rep X.K G ι M v x) (q : FinD X G W σ ι M (toTupS x μ) Q) : wpAny (model X.prog X.w) X.A (call (.type "tuple") [vv]) (EP X pins σ Q) X.xe s := by
  unfold toTupS at q
  cases e : seqOf x μ with
  | none => rw [e] at q; exact q.elim
  | some ds =>
    rw [e] at q
    obtain ⟨a, xs, rfl, rs, c⟩ := seq_at S' rx e
    refine call_tuple_of pins s σ H [.ref a] [vv] Q I (.cons rv .nil) ⟨a, xs, rfl, ?_⟩
    rcases c with ⟨h, rfl⟩ | ⟨h, _⟩
    · exact .inr ⟨h.ext S'.fz, Fin3.ok q S' _ (.tup h rs)⟩
    · exact .inl ⟨h, fun p hp => Fin3.frz q S' hp fun x => .tup (SqT.of upd_same) (rs.mono (Pre.refl _) x)⟩
theorem list_run {c : Bool} (I : Inv X pins σ H s) (rv : RelV v vv) (S' : Sto X.K G ι M H μ) (rx : Rep X.K G ι M v x) (q : FinD X G W σ ι M (toLstS c x μ) Q) : wpAny (model X.prog X.w) X.A (call (.type "list") [vv]) (EP X pins σ Q) X.xe s := by
  unfold toLstS at q
  cases e : seqOf x μ with
  | none => rw [e] at q; exact q.elim
  | some ds =>
    rw [e] at q
    obtain ⟨a, xs, rfl, rs, k⟩ := seq_at S' rx e
    have k2 : SqL X.K H a xs ∨ SqT X.K H a xs := by
      rcases k with ⟨h, _⟩ | ⟨h, _⟩
      · exact .inr (h.ext S'.fz)
      · exact .inl h
    refine call_list_of pins s σ H [.ref a] [vv] Q I (.cons rv .nil) ⟨a, xs, rfl, k2, fun p hp => ?_⟩
    cases c with
    | true => exact Fin3.new (c := .lst ds) (show FinD X G W σ ι M (Res.ok (D.cell μ.length) (μ ++ [Cel.lst ds])) Q from q) S' hp ⟨xs, upd_same, rs.mono (Pre.app _ _) Ext.rfl'⟩
    | false => exact Fin3.frz (show FinD X G W σ ι M (Res.ok (D.lst ds) μ) Q from q) S' hp fun x => .lst upd_same (rs.mono (Pre.refl _) x)
theorem str_run (I : Inv X pins σ H s) (rv : RelV v vv) (S' : Sto X.K G ι M H μ) (rx : Rep X.K G ι M v x) (q : FinD X G W σ ι M (strS x μ) Q) : wpAny (model X.prog X.w) X.A (call (.type "str") [vv]) (EP X pins σ Q) X.xe s := by
  cases x with
  | int i =>
    cases rep_int rx
    have q2 : FinD X G W σ ι M (if i.natAbs.log2 < 1920 then Res.ok (D.str (toString i)) μ else Res.stuck) Q := q
    by_cases h : i.natAbs.log2 < 1920
    · rw [if_pos h] at q2
      exact call_str_int pins s σ H [.int i] [vv] Q I (.cons rv .nil) ⟨i, rfl, h, Fin3.ok q2 S' _ .str⟩
    · rw [if_neg h] at q2
      exact q2.elim
  | str z => cases rep_str rx; exact SkE.call_str_str pins s σ H [.str z] [vv] Q I (.cons rv .nil) ⟨z, rfl, Fin3.ok q S' _ .str⟩
  | _ => exact q.elim
theorem bls_of : ∀ {ds : List D} {bs : List Bool} {xs : List V}, blsOf ds = some bs → Reps X.K G ι M xs ds → xs = bs.map V.bl
  | [], bs, xs, e, r => by cases e; cases r; rfl
  | d :: ds, bs, xs, e, r => by
    cases r with
    | cons r1 rr =>
      cases d with
      | bl b =>
        have e2 : (blsOf ds).map (b :: ·) = some bs := e
        cases q : blsOf ds with
        | none => rw [q] at e2; cases e2
        | some bs' =>
          rw [q] at e2
          cases e2
          cases rep_bl r1
          rw [bls_of q rr]
          rfl
      | _ => cases e
theorem all_run (hc : X.calm = true) (I : Inv X pins σ H s) (rv : RelV v vv) (S' : Sto X.K G ι M H μ) (rx : Rep X.K G ι M v x) (q : FinD X G W σ ι M (allS x μ) Q) : wpAny (model X.prog X.w) X.A (call (.builtin "all") [vv]) (EP X pins σ Q) X.xe s := by
  unfold allS at q
  cases e : lstOf x μ with
  | none => rw [e] at q; exact q.elim
  | some ds =>
    rw [e] at q
    dsimp only at q
    cases e2 : blsOf ds with
    | none => rw [e2] at q; exact q.elim
    | some bs =>
      rw [e2] at q
      obtain ⟨a, xs, rfl, rs, h⟩ := lst_at S' rx e
      have hx := bls_of e2 rs
      subst hx
      exact cr_all hc pins s σ H [.ref a] [vv] Q I (.cons rv .nil) ⟨a, bs, rfl, h, Fin3.ok q S' _ .bl⟩
/-- the value behind a built-in's name -/
def BI.val : BI → Str × Value
  | .isinstance => ("isinstance", .builtin "isinstance")
  | .len => ("len", .builtin "len")
  | .abs => ("abs", .builtin "abs")
  | .int => ("int", .type "int")
  | .tuple => ("tuple", .type "tuple")
  | .list => ("list", .type "list")
  | .listC => ("list", .type "list")
  | .str => ("str", .type "str")
  | .all => ("all", .builtin "all")
theorem og_bi (T : TbX X G S fd k run) (hr : Room (k + 1) X.A) (hc : X.calm = true) (tk : Takes X W) (b : BI) : CallG X G W b.val.2 (biS S run b) := by
  intro pins s σ ι M H μ ds vs us Q I rv S' rs q
  cases b with
  | isinstance =>
    match ds, q with
    | [x, y], q =>
      obtain ⟨v, u, vv, uu, rfl, rfl, r1, r2, q1, q2⟩ := reps_two rs rv
      exact isi_run T I r1 r2 S' q1 q2 q
    | [], q => exact q.elim
    | [_], q => exact q.elim
    | _ :: _ :: _ :: _, q => exact q.elim
  | len =>
    match ds, q with
    | [x], q =>
      obtain ⟨v, vv, rfl, rfl, r1, q1⟩ := reps_one rs rv
      exact len_run I r1 S' q1 q
    | [], q => exact q.elim
    | _ :: _ :: _, q => exact q.elim
  | abs =>
    match ds, q with
    | [x], q =>
      obtain ⟨v, vv, rfl, rfl, r1, q1⟩ := reps_one rs rv
      exact abs_run T hr tk I r1 S' q1 q
    | [], q => exact q.elim
    | _ :: _ :: _, q => exact q.elim
  | int =>
    match ds, q with
    | [x], q =>
      obtain ⟨v, vv, rfl, rfl, r1, q1⟩ := reps_one rs rv
      exact int_run I r1 S' q1 q
    | [], q => exact q.elim
    | _ :: _ :: _, q => exact q.elim
  | tuple =>
    match ds, q with
    | [x], q =>
      obtain ⟨v, vv, rfl, rfl, r1, q1⟩ := reps_one rs rv
      exact tup_run I r1 S' q1 q
    | [], q => exact q.elim
    | _ :: _ :: _, q => exact q.elim
  | list =>
    match ds, q with
    | [x], q =>
      obtain ⟨v, vv, rfl, rfl, r1, q1⟩ := reps_one rs rv
      exact list_run (c := false) I r1 S' q1 q
    | [], q => exact q.elim
    | _ :: _ :: _, q => exact q.elim
  | listC =>
    match ds, q with
    | [x], q =>
      obtain ⟨v, vv, rfl, rfl, r1, q1⟩ := reps_one rs rv
      exact list_run (c := true) I r1 S' q1 q
    | [], q => exact q.elim
    | _ :: _ :: _, q => exact q.elim
  | str =>
    match ds, q with
    | [x], q =>
      obtain ⟨v, vv, rfl, rfl, r1, q1⟩ := reps_one rs rv
      exact str_run I r1 S' q1 q
    | [], q => exact q.elim
    | _ :: _ :: _, q => exact q.elim
  | all =>
    match ds, q with
    | [x], q =>
      obtain ⟨v, vv, rfl, rfl, r1, q1⟩ := reps_one rs rv
      exact all_run hc I r1 S' q1 q
    | [], q => exact q.elim
    | _ :: _ :: _, q => exact q.elim
end
end L3

set_option maxRecDepth 100000
set_option maxHeartbeats 2000000
/-! L4e: calls of own defs and classes, attributes, slices, chains: on the syntax, with tests for premises. -/
namespace L3
open PySem PySem.Spec PyProof.Rows L2

/-! ### tests on the syntax -/
def plainE : Expr → Bool
  | .Starred .. => false
  | _ => true
def plainL (l : List Expr) : Bool := l.all plainE
theorem star_plain {e : Expr} {r : List Expr} {env : Env} (h : plainE e = true) : starEach (e :: r) env = (false, eval e env) :: starEach r env := by
  cases e <;> first | rfl | (simp [plainE] at h; done)
theorem star_any {env : Env} {pos : Pos} : ∀ {l : List Expr}, plainL l = true → (backTo pos (starEach l env)).any (·.1) = false
  | [], _ => rfl
  | e :: r, h => by
    have h2 : (plainE e && plainL r) = true := h
    rw [Bool.and_eq_true] at h2
    rw [star_plain h2.1]
    show (false || (backTo pos (starEach r env)).any (·.1)) = false
    rw [star_any h2.2]
    rfl
theorem star_all {env : Env} {pos : Pos} : ∀ {l : List Expr}, plainL l = true → (backTo pos (starEach l env)).all (!·.1) = true
  | [], _ => rfl
  | e :: r, h => by
    have h2 : (plainE e && plainL r) = true := h
    rw [Bool.and_eq_true] at h2
    rw [star_plain h2.1]
    show (true && (backTo pos (starEach r env)).all (!·.1)) = true
    rw [star_all h2.2]
    rfl
def notSuper : Expr → Bool
  | .Call (.Name _ _) [] [] _ => false
  | _ => true
theorem attr_base {o : Expr} {m : Str} {env : Env} {whole : Sem Value} (h : notSuper o = true) : attributeBase o m env whole = whole := by
  unfold attributeBase
  split
  · simp [notSuper] at h
  · rfl
theorem meth_eq {o : Expr} {m : Str} {apos pos : Pos} {env : Env} {args : List Expr} (h1 : notSuper o = true) (h2 : plainL args = true) (h3 : decide (args.length < 30) = true) (h4 : (apos.endLine == pos.line) = true) :
    eval (.Call (.Attribute o m apos) args [] pos) env = (do
      let ov ← eval o env
      standAt apos.atName
      let (f, first) ← holding [ov] (getMethod ov m (do return (← importBound o env).getD true))
      callWith pos f first (backTo pos (starEach args env)) (backToKw pos (keywordEach [] env))) := by
  have f1 : methodCallForm (args.length + 0) (backTo pos (starEach args env)) (backToKw pos (keywordEach [] env)) = true := by
    unfold methodCallForm
    rw [star_all h2]
    show (true && true && decide (args.length + 0 + 0 < 30)) = true
    simpa using h3
  show (do
    let ov ← attributeBase o m env (eval o env)
    standAt apos.atName
    methodCall o m apos pos env ov (args.length + 0) (backTo pos (starEach args env)) (backToKw pos (keywordEach [] env))) = _
  rw [attr_base h1]
  unfold methodCall
  simp only [f1, calleeOf, methodCallPos, h4, if_true, Bool.not_true, Bool.false_or, pure_bind]

/-! ### running own defs -/
section
variable {X : Cx} {G : Gx} {W : WX} {S : Sig} {fd : Nat → FuncData} {k : Nat} {run : Nat → List D → PM D}
variable {pins : List (Addr × Obj)} {s : Shared} {σ : L2.St} {ι : List Addr} {M H : Hp} {μ : Mu} {Q : VK} {us ws : List Value} {vs zs : List V} {ds es as : List D}
theorem kbn_of {K : PySem.W.Frag} {fd : FuncData} {ps : List Str} {n : Nat} (h : Binds K fd ps []) (hn : n = ps.length) : KBn K fd ps n [] (fun us _ => us) (fun vs _ => vs) :=
  ⟨fun s us ws X l1 _ => by
    have q := h s us X (by rw [List.append_nil, l1, hn])
    rw [List.append_nil] at q
    exact q, fun r _ => r⟩
theorem runK {f : Addr} {np n : Nat} {F : List D → PM D} {fd : FuncData} {ps ks : List Str} {g : List Value → List Value → List Value} {gV : List V → List V → List V} (ar : ∀ ds μ, ds.length ≠ np → F ds μ = .stuck)
    (ok : FnOk X.prog X.w X.K X.mg X.base (L2.CX X.prog X.w) k f fd ps (sp3 X.K G np F)) (hb : KBn X.K fd ps n ks g gV) (hr : Room k X.A) (tk : Takes X W) (I : Inv X pins σ H s) (S' : Sto X.K G ι M H μ) (r : Vals vs us) (rz : Vals zs ws) (l1 : vs.length = n) (l2 : zs.length = ks.length)
    (rs : Reps X.K G ι M (gV vs zs) as) (q : FinD X G W σ ι M (F as μ) Q) : wpAny (model X.prog X.w) X.A (call (.ref f) us (ks.zip ws)) (EP X pins σ Q) X.xe s := by
  have hsp : sp3 X.K G np F (gV vs zs) H Q (WE W σ) := ⟨rs.length.trans (Fin3.ar ar q), ι, M, μ, as, S', rs, q.call⟩
  refine wpAny_call (codeAny_mono (ok.run X.A X.stack s H ⟨us, ks.zip ws⟩ _ _ Q (WE W σ) hr I.env0 (hb.to s us ws I.kIn (r.length.symm.trans l1) (rz.length.symm.trans l2)) (hb.rel r rz) hsp) fun res s' hq => ?_)
  cases res with
  | error e => exact passAt tk σ pins H s e s' I hq
  | ok fl =>
    cases fl with
    | ret u => exact I.after hq
    | _ => exact False.elim hq
theorem runMk {c : Nat} {f : Addr} {np n : Nat} {F : List D → PM D} {fd : FuncData} {ps ks : List Str} {g : List Value → List Value → List Value} {gV : List V → List V → List V} {B : List D → List D → List D} {z : Bool} (ar : ∀ ds μ, ds.length ≠ np → F ds μ = .stuck)
    (ok : FnOk X.prog X.w X.K X.mg X.base (L2.CX X.prog X.w) k f fd ps (sp3 X.K G np F)) (hb : KBn X.K fd ps (n + 1) ks g gV) (hB : ∀ (ι : List Addr) (M : Hp) (vs zs : List V) (ds es : List D), ds.length = n + 1 → es.length = ks.length → Reps X.K G ι M vs ds → Reps X.K G ι M zs es → Reps X.K G ι M (gV vs zs) (B ds es)) (mk : Mk X.K (G.cA c) f)
    (hr : Room (k + 1) X.A) (tk : Takes X W) (I : Inv X pins σ H s) (S' : Sto X.K G ι M H μ) (r : Vals vs us) (rz : Vals zs ws) (l1 : ds.length = n) (l2 : es.length = ks.length) (rs : Reps X.K G ι M vs ds) (rk : Reps X.K G ι M zs es)
    (q : FinD X G W σ ι M (mkS z c (fun o m => F (B (o ++ ds) es) m) μ) Q) : wpAny (model X.prog X.w) X.A (call (.ref (G.cA c)) us (ks.zip ws)) (EP X pins σ Q) X.xe s := by
  have q0 : FinD X G W σ ι M ((F (B (.cell μ.length :: ds) es) (μ ++ [.ins c []])).bind fun r m => match r with
      | .non => .ok (.cell μ.length) m
      | _ => .stuck) Q := by
    have q1 : FinD X G W σ ι M ((F (B (.cell μ.length :: ds) es) (μ ++ [.ins c []])).bind fun r m => match r with
      | .non => if z = true then closeFz μ (.cell μ.length) m else .ok (.cell μ.length) m
      | _ => .stuck) Q := q
    cases z with
    | false => exact q1
    | true =>
      refine Fin3.close S' ?_
      cases e1 : F (B (.cell μ.length :: ds) es) (μ ++ [.ins c []]) with
      | ok d m =>
        rw [e1] at q1
        cases d with
        | non => exact q1
        | _ => exact q1.elim
      | exc c fs m => rw [e1] at q1; exact q1
      | stuck => rw [e1] at q1; exact q1
  have n1 : H (s.heap.objs.size + 1) = none := I.hok.fresh (Nat.le_succ _)
  have n2 : H s.heap.objs.size = none := I.hok.fresh (Nat.le_refl _)
  have ne : s.heap.objs.size ≠ s.heap.objs.size + 1 := Nat.ne_of_lt (Nat.lt_succ_self _)
  have I2 := Inv.made (C := G.cA c) I
  have S2 : Sto X.K G (ι ++ [s.heap.objs.size + 1]) M (upd (upd H s.heap.objs.size (.own (s.heap.objs.size + 1))) (s.heap.objs.size + 1) (.ins (G.cA c) s.heap.objs.size [])) (μ ++ [.ins c []]) := by
    refine (S'.grown (Ext.upd n2)).cell (by rw [upd_ne (Ne.symm ne)]; exact n1) ⟨s.heap.objs.size, [], ?_, Nat.zero_le _, .nil⟩
    rw [upd_same]
    cases G.fN c <;> rfl
  have pr := Pre.app ι [s.heap.objs.size + 1]
  have hself : (ι ++ [s.heap.objs.size + 1])[μ.length]? = some (s.heap.objs.size + 1) := by rw [← S'.len, List.getElem?_append_right (Nat.le_refl _)]; simp
  have rself : Rep X.K G (ι ++ [s.heap.objs.size + 1]) M (.ref (s.heap.objs.size + 1)) (.cell μ.length) := .cell hself
  have rall := hB _ _ (V.ref (s.heap.objs.size + 1) :: vs) zs (.cell μ.length :: ds) es (by simp [l1]) l2 (.cons rself (rs.mono pr Ext.rfl')) (rk.mono pr Ext.rfl')
  have r1 : Vals (V.ref (s.heap.objs.size + 1) :: vs) (Value.ref (s.heap.objs.size + 1) :: us) := .cons rfl r
  have e1 : (Value.ref (s.heap.objs.size + 1) :: us).length = n + 1 := congrArg Nat.succ (r.length.symm.trans (rs.length.trans l1))
  have e2 : ws.length = ks.length := rz.length.symm.trans (rk.length.trans l2)
  have q2 := Fin3.mono pr (M' := M) Ext.rfl' (Fin3.bind q0)
  have hsp : sp3 X.K G np F (gV (V.ref (s.heap.objs.size + 1) :: vs) zs) (upd (upd H s.heap.objs.size (.own (s.heap.objs.size + 1))) (s.heap.objs.size + 1) (.ins (G.cA c) s.heap.objs.size [])) (fun v H2 => v = .non ∧ Q (.ref (s.heap.objs.size + 1)) H2) (WE W σ) :=
    ⟨rall.length.trans (Fin3.ar ar q2), _, M, _, _, S2, rall, Fin3.imp q2.call fun ι' M' H' μ' d p' x' S' q v rv => by
      cases d with
      | non => exact ⟨rep_non rv, Fin3.ok q S' _ (.cell (p' _ _ hself))⟩
      | _ => exact q.elim⟩
  refine wpAny_call (make_map (f := f) I.kIn mk.makes mk.init (beq_iff_eq.mp mk.fn) (codeAny_mono (ok.run _ X.stack _ _ ⟨Value.ref (s.heap.objs.size + 1) :: us, ks.zip ws⟩ _ _ _ (WE W σ) (hr.make (G.cA c) us (ks.zip ws))
    (I2.env0.make (G.cA c) us (ks.zip ws)) (hb.to _ (Value.ref (s.heap.objs.size + 1) :: us) ws I2.kIn e1 e2) (hb.rel r1 rz) hsp) fun r s' hq' => ?_))
  cases r with
  | error e => exact passAt tk σ pins _ _ e s' I2 hq'
  | ok fl =>
    cases fl with
    | ret u =>
      obtain ⟨v, H', I3, rv, ev, q3⟩ := I2.after hq'
      subst ev
      exact ⟨rv, ⟨V.ref (s.heap.objs.size + 1), H', I3, rfl, q3⟩⟩
    | _ => exact False.elim hq'
end
end L3

set_option maxRecDepth 100000
set_option maxHeartbeats 2000000
/-! L4f: the rules of expressions on data, with tests for premises. -/
namespace L3
open PySem PySem.Spec PyProof.Rows L2
/-- where a body stands -/
structure XOk (X : Cx) (G : Gx) (W : WX) (S : Sig) (fd : Nat → FuncData) (k : Nat) (run : Nat → List D → PM D) (sc : Scope) (N : List Str) (cm : Bool) (ev : Option Nat) : Prop where
  tb : TbX X G S fd k run
  hsc : X.env.scope = sc
  nm : X.N = N
  nd : X.N.Nodup
  room : cm = true → Room (k + 2) X.A
  tk : Takes X W
  calm : cm = true → X.calm = true
  po : PassesOwn (model X.prog X.w) X.A X.env X.xe
  ec : cm = true → G.eA = none
  eq : ∀ i z, G.eA = some (i, z) → ev = some i
  ex : ∀ i a cls dx, G.eA = some (i, a, cls, dx) → ∃ X0 oe pn, X = Cx.suite X0 a ((a, oe) :: pn) ∧ Zc cls dx oe ∧ ∃ vs, oe.data = .fields vs
def okN (y : Str) : Bool := !(y == ("__debug__" : Str)) && (!(y == ("__classdict__" : Str)) && !decide (y = "__name__"))
def visB (sc : Scope) (x : Str) : Bool := decide (sc.names.lookup x = some .local) || (decide (sc.names.lookup x = some .cell) || decide (sc.names.lookup x = some .free))
def locB (sc : Scope) (x : Str) : Bool := decide (sc.names.lookup x = some .local) || decide (sc.names.lookup x = some .cell)
def glB (sc : Scope) (x : Str) : Bool := decide (sc.names.lookup x = some .globalImplicit)
theorem okN_of {y : Str} (h : okN y = true) : (y == ("__debug__" : Str)) = false ∧ (y == ("__classdict__" : Str)) = false ∧ y ≠ "__name__" := by
  unfold okN at h
  simp only [Bool.and_eq_true, Bool.not_eq_true', decide_eq_false_iff_not] at h
  exact h
section
variable {X : Cx} {G : Gx} {W : WX} {S : Sig} {fd : Nat → FuncData} {k : Nat} {run : Nat → List D → PM D} {sc : Scope} {N : List Str} {cm : Bool} {ev : Option Nat}
theorem XOk.vis (O : XOk X G W S fd k run sc N cm ev) {x : Str} (h : visB sc x = true) : Vis X.env.scope x := by
  unfold visB at h
  simp only [Bool.or_eq_true, decide_eq_true_eq] at h
  rw [O.hsc]
  exact h
theorem XOk.loc (O : XOk X G W S fd k run sc N cm ev) {x : Str} (h : locB sc x = true) : Loc X.env.scope x := by
  unfold locB at h
  simp only [Bool.or_eq_true, decide_eq_true_eq] at h
  rw [O.hsc]
  exact h
theorem XOk.gl (O : XOk X G W S fd k run sc N cm ev) {x : Str} (h : glB sc x = true) : Gl X x := by
  unfold glB at h
  rw [decide_eq_true_eq] at h
  show X.env.scope.names.lookup x = _
  rw [O.hsc]
  exact h
theorem XOk.st (O : XOk X G W S fd k run sc N cm ev) (hfn : ∀ x, X.fn x = true ∨ sc.names.lookup x ≠ some .cell) {x : Str} (h : locB sc x = true) : X.fn x = true ∨ X.env.scope.names.lookup x = some .local := by
  rcases hfn x with h1 | h1
  · exact .inl h1
  · unfold locB at h
    simp only [Bool.or_eq_true, decide_eq_true_eq] at h
    rw [O.hsc]
    exact .inr (h.resolve_right h1)
variable {pos p apos : Pos} {e o : Expr} {es l : List Expr} {Fe Fo : FE} {Fa Fk : FA} {x m : Str}
/-- a module's constant -/
theorem e_glo (O : XOk X G W S fd k run sc N cm ev) {n : Nat} {d : D} (h : S.ks[n]? = some (x, d)) (hg : glB sc x = true) (hn : okN x = true) : E3 X G W (.Name x pos) (fun _ μ => match S.ks[n]? with
    | some k => .ok k.2 μ
    | none => .stuck) := by
  obtain ⟨u, v, hm, r, rep⟩ := O.tb.con n x d h
  obtain ⟨h1, _, h3⟩ := okN_of hn
  refine pe_imp (t' := tE X.K G W (fun _ μ => match S.ks[n]? with
    | some k => .ok k.2 μ
    | none => .stuck)) (t := tC v) ?_ fun σ H Q ⟨ι, M, δ, μ, S', R, f⟩ => ?_
  · rcases hm with hm | ⟨hm, hb, _⟩
    · exact pe_glob (O.gl hg) hm r h1
    · exact pe_bltn (O.gl hg) hm hb r h3 h1
  · have f2 : Fin3 X.K G W σ ι M (Res.ok d μ) (fun ι' M' H' _ d => ∀ v, Rep X.K G ι' M' v d → Q v H') := by
      rw [h] at f
      exact f
    exact f2.ok S' v (rep ι M)
/-- f(..) of an own def, every parameter given by place -/
theorem e_callO (O : XOk X G W S fd k run sc N cm ev) (hcm : cm = true) {i : Nat} {fi : Fd} (hf : S.fs[i]? = some fi) (hx : fi.d.at_ = (x, none)) (hg : glB sc x = true) (hn : okN x = true) (hp : plainL l = true) (ha : A3 X G W l Fa) (h0 : l = [] → Fa = aNil) :
    E3 X G W (.Call (.Name x p) l [] pos) (fun δ μ => (Fa δ μ).bind fun ds μ => run i ds μ) := by
  obtain ⟨hm, hk⟩ := O.tb.glf i fi hf (by rw [hx])
  rw [hx] at hm
  have hr : Room k X.A := (O.room hcm).mono (by omega)
  refine ⟨fun pins s σ H Q I ⟨ι, M, δ, μ, S', R, q⟩ => ?_⟩
  refine wpAny_Call_Name_kw (ld_glob I (O.gl hg) hm ?_ (okN_of hn).1)
  cases l with
  | nil =>
    rw [h0 rfl] at q
    obtain ⟨_, _, _, ow⟩ := O.tb.get (ds := []) q
    exact PySem.W.callWith_K0 I.kIn hk (ow.run hr O.tk I S' .nil .nil q)
  | cons e es =>
    have hp2 : (plainE e && plainL es) = true := hp
    rw [Bool.and_eq_true] at hp2
    refine PySem.W.callWith_K (h₀ := X.base) I.ok.mod.kin hk (ha.go I S' R (Fin3.bind q) fun us s2 ws ι2 M2 H2 μ2 as I2 r2 p2 x2 S2 R2 rws q2 => ⟨I2.kIn, ?_⟩) (star_plain hp2.1) (star_any hp2.2)
    obtain ⟨_, _, _, ow⟩ := O.tb.get q2
    exact ow.run hr O.tk I2 S2 r2 rws q2
/-- o.m(..) of an own class -/
theorem e_methO (O : XOk X G W S fd k run sc N cm ev) (hcm : cm = true) (ho : E3 X G W o Fo) (h1 : notSuper o = true) (h2 : plainL l = true) (h3 : decide (l.length < 30) = true) (h4 : (apos.endLine == pos.line) = true) (ha : A3 X G W l Fa) (h0 : l = [] → Fa = aNil) :
    E3 X G W (.Call (.Attribute o m apos) l [] pos) (fun δ μ => (Fo δ μ).bind fun x μ => methS S run m x (Fa δ) μ) := by
  have hr : Room k X.A := (O.room hcm).mono (by omega)
  refine ⟨fun pins s σ H Q I ⟨ι, M, δ, μ, S', R, q⟩ => ?_⟩
  refine PySem.W.methodCall_KW (ho.go I S' R (Fin3.bind q) fun u s1 v ι1 M1 H1 μ1 d I1 rx p1 x1 S1 R1 rv q => ?_) (meth_eq h1 h2 h3 h4)
  unfold methS at q
  cases e1 : insOf d μ1 with
  | none => rw [e1] at q; exact q.elim
  | some pr =>
    obtain ⟨c, fs⟩ := pr
    rw [e1] at q
    dsimp only at q
    cases e2 : S.mi c m with
    | none => rw [e2] at q; exact q.elim
    | some i =>
      rw [e2] at q
      dsimp only at q
      obtain ⟨mt, hm, cl⟩ := O.tb.mt c m i e2
      obtain ⟨a, dx, vs, rfl, h, _, r⟩ := S1.ins e1 rv
      obtain rfl : u = Value.ref a := rx
      refine getmeth_ok I1 h cl mt (no_lookup _ _ hm) ?_
      cases l with
      | nil =>
        rw [h0 rfl] at q
        obtain ⟨_, _, _, ow⟩ := O.tb.get (ds := [d]) q
        exact PySem.W.callWith_K0 (first := [.ref a]) I1.kIn mt.kp (ow.run hr O.tk I1 S1 (.cons (rr a) .nil) (.cons rv .nil) q)
      | cons e es =>
        have hp2 : (plainE e && plainL es) = true := h2
        rw [Bool.and_eq_true] at hp2
        refine PySem.W.callWith_K (first := [.ref a]) (h₀ := X.base) I.ok.mod.kin mt.kp (ha.go I1 S1 R1 (Fin3.bind q) fun us s2 ws ι2 M2 H2 μ2 as I2 r2 p2 x2 S2 R2 rws q2 => ⟨I2.kIn, ?_⟩) (star_plain hp2.1) (star_any hp2.2)
        obtain ⟨_, _, _, ow⟩ := O.tb.get q2
        exact ow.run hr O.tk I2 S2 (.cons (rr a) r2) (.cons (rv.mono p2 x2) rws) q2
/-- C.m(e, ..), m a static method -/
theorem e_smethO (O : XOk X G W S fd k run sc N cm ev) (hcm : cm = true) {c i : Nat} {ci : Cd} (hc : S.cs[c]? = some ci) (hs : S.sm c m = some i) (hx : ci.nm = x) (hg : glB sc x = true) (hn : okN x = true) (h2 : plainL l = true) (h3 : decide (l.length < 30) = true) (h4 : (apos.endLine == pos.line) = true) (ha : A3 X G W l Fa) (h0 : l = [] → Fa = aNil) :
    E3 X G W (.Call (.Attribute (.Name x p) m apos) l [] pos) (fun δ μ => (Fa δ μ).bind fun ds μ => run i ds μ) := by
  have hr : Room k X.A := (O.room hcm).mono (by omega)
  have hm := O.tb.glc c ci hc
  rw [hx] at hm
  have sf := O.tb.sm c m i hs
  obtain ⟨q0, e1, rest, e2⟩ := sf.at_
  refine ⟨fun pins s σ H Q I ⟨ι, M, δ, μ, S', R, q⟩ => ?_⟩
  refine PySem.W.methodCall_KW (thn ((pe_glob (O.gl hg) hm (v := .ref (G.cA c)) rfl (okN_of hn).1).run pins s σ H (fun v H1 => v = .ref (G.cA c) ∧ H1 = H) I ⟨rfl, rfl⟩) fun u s1 ⟨v, H1, I1, rx, ev, eh⟩ => ?_) (meth_eq rfl h2 h3 h4)
  subst ev
  subst eh
  obtain rfl : u = Value.ref (G.cA c) := rx
  refine PySem.W.method_cls I1.kIn sf.ga ?_
  obtain ⟨m1, fr⟩ := inv_fr I1
  refine PySem.W.cls_sm fr I1.ok.mod.kin sf.ty sf.rd e1 e2 rfl ?_
  have I2 : Inv X pins σ H1 { s1 with toks := s1.toks + 1 } := I1.tok _
  cases l with
  | nil =>
    rw [h0 rfl] at q
    obtain ⟨_, _, _, ow⟩ := O.tb.get (ds := []) q
    exact PySem.W.callWith_K0 (first := []) I2.kIn sf.kp (ow.run hr O.tk I2 S' .nil .nil q)
  | cons e es =>
    have hp2 : (plainE e && plainL es) = true := h2
    rw [Bool.and_eq_true] at hp2
    refine PySem.W.callWith_K (first := []) (h₀ := X.base) I.ok.mod.kin sf.kp (ha.go I2 S' R (Fin3.bind q) fun us s2 ws ι2 M2 H2 μ2 as I3 r2 p2 x2 S2 R2 rws q2 => ⟨I3.kIn, ?_⟩) (star_plain hp2.1) (star_any hp2.2)
    obtain ⟨_, _, _, ow⟩ := O.tb.get q2
    exact ow.run hr O.tk I3 S2 r2 rws q2
/-! ### keywords -/
def namedL (l : List Keyword) (ks : List Str) : Bool := decide (l.map (·.arg) = ks.map some)
abbrev K3 (X : Cx) (G : Gx) (W : WX) (l : List Keyword) (F : FA) : Prop := PK X l (tA X.K G W F)
theorem pk_imp {t t' : TA} {l : List Keyword} (h : PK X l t) (k : ∀ σ H Q, t' σ H Q → t σ H Q) : PK X l t' := ⟨fun pos pins s σ H Q I q => h.run pos pins s σ H Q I (k σ H Q q)⟩
theorem k_nil : K3 X G W [] aNil := pk_imp pk_nil fun σ H Q ⟨ι, M, δ, μ, S', R, f⟩ => Fin3.ok f S' _ .nil
theorem k_cons {nm : Option Str} {kpos : Pos} {r : List Keyword} {Fr : FA} (ha : E3 X G W e Fe) (hr : K3 X G W r Fr) : K3 X G W (⟨nm, e, kpos⟩ :: r) (aCons Fe Fr) := pk_imp (pk_cons ha hr) fun σ H Q ⟨ι, M, δ, μ, S', R, f⟩ =>
  ⟨ι, M, δ, μ, S', R, (Fin3.bind f).imp fun ι1 M1 H1 μ1 d p1 x1 S1 q v rv => ⟨ι1, M1, δ, μ1, S1, R.mono p1 x1, (Fin3.bind q).imp fun ι2 M2 H2 μ2 ds p2 x2 S2 q2 vs rvs => Fin3.ok q2 S2 _ (.cons (rv.mono p2 x2) rvs)⟩⟩
theorem K3.go {kl : List Keyword} {Fa : FA} (ha : K3 X G W kl Fa) {pos : Pos} {pins : List (Addr × Obj)} {s : Shared} {σ : L2.St} {H : Hp} {ι : List Addr} {M : Hp} {δ : Env3} {μ : Mu} {P : List Addr → Hp → Hp → Mu → List D → Prop} {Q : List Value → Shared → Prop} (I : Inv X pins σ H s) (S' : Sto X.K G ι M H μ) (R : REnv X.K G ι M σ δ)
    (f : Fin3 X.K G W σ ι M (Fa δ μ) P) (kk : ∀ us s' vs ι' M' H' μ' ds, Inv X pins σ H' s' → Vals vs us → Pre ι ι' → Ex M M' → Sto X.K G ι' M' H' μ' → REnv X.K G ι' M' σ δ → Reps X.K G ι' M' vs ds → P ι' M' H' μ' ds → Q us s') :
    wpAny (model X.prog X.w) X.A (evalAll ((backToKw pos (keywordEach kl X.env)).map (·.2))) Q X.xe s :=
  thn (ha.run pos pins s σ H (fun vs H' => ∃ ι' M' μ' ds, Pre ι ι' ∧ Ex M M' ∧ Sto X.K G ι' M' H' μ' ∧ Reps X.K G ι' M' vs ds ∧ P ι' M' H' μ' ds) I ⟨ι, M, δ, μ, S', R, f.imp fun ι1 M1 H1 μ1 d p1 x1 S1 q v rv => ⟨ι1, M1, μ1, d, p1, x1, S1, rv, q⟩⟩)
    fun us s' ⟨vs, H', I', rx, ι', M', μ', ds, p, x, S', rv, q⟩ => kk us s' vs ι' M' H' μ' ds I' rx p x S' (R.mono p x) rv q
theorem kw_names {env : Env} {pos : Pos} : ∀ {l : List Keyword}, (backToKw pos (keywordEach l env)).map (·.1) = l.map (·.arg)
  | [] => rfl
  | ⟨a, v, p⟩ :: r => by
    show a :: (backToKw pos (keywordEach r env)).map (·.1) = a :: r.map (·.arg)
    rw [kw_names]
theorem kw_facts {env : Env} {pos : Pos} {l : List Keyword} {ks : List Str} (h : namedL l ks = true) : (backToKw pos (keywordEach l env)).all (·.1.isSome) = true ∧ (backToKw pos (keywordEach l env)).filterMap (·.1) = ks ∧ (backToKw pos (keywordEach l env)).any (·.1.isNone) = false := by
  have e : (backToKw pos (keywordEach l env)).map (·.1) = ks.map some := kw_names.trans (of_decide_eq_true h)
  generalize backToKw pos (keywordEach l env) = L at e
  clear h
  induction L generalizing ks with
  | nil =>
    cases ks with
    | nil => exact ⟨rfl, rfl, rfl⟩
    | cons _ _ => cases e
  | cons q r ih =>
    cases ks with
    | nil => cases e
    | cons y ys =>
      rw [List.map_cons, List.map_cons] at e
      injection e with e1 e2
      obtain ⟨h1, h2, h3⟩ := ih e2
      obtain ⟨q1, q2⟩ := q
      dsimp only at e1
      subst e1
      exact ⟨by simpa using h1, by simpa using h2, by simpa using h3⟩
theorem any_or {a b : Bool} (h1 : a = false) (h2 : b = false) : (a || b) = false := by rw [h1, h2]; rfl
/-- f(.., k = v): by a shape -/
theorem e_callKO (O : XOk X G W S fd k run sc N cm ev) (hcm : cm = true) {j : Nat} {sh : Sh} {fi : Fd} {kl : List Keyword} (hs : S.sh[j]? = some sh) (hf : S.fs[sh.f]? = some fi) (hx : fi.d.at_ = (x, none)) (hg : glB sc x = true) (hn : okN x = true) (hp : plainL l = true) (hk : namedL kl sh.ks = true) (ha : A3 X G W l Fa) (h0 : l = [] → Fa = aNil) (hkw : K3 X G W kl Fk) :
    E3 X G W (.Call (.Name x p) l kl pos) (fun δ μ => (Fa δ μ).bind fun ds μ => (Fk δ μ).bind fun zs μ => callKS S run j ds zs μ) := by
  obtain ⟨hm, hkp⟩ := O.tb.glf sh.f fi hf (by rw [hx])
  rw [hx] at hm
  have hr : Room k X.A := (O.room hcm).mono (by omega)
  obtain ⟨g, gV, hb, hB⟩ := O.tb.sh j sh fi hs hf
  have ow := O.tb.own sh.f fi hf
  refine ⟨fun pins s σ H Q I ⟨ι, M, δ, μ, S', R, q⟩ => ?_⟩
  refine wpAny_Call_Name_kw (ld_glob I (O.gl hg) hm ?_ (okN_of hn).1)
  obtain ⟨f1, f2, f3⟩ := kw_facts (env := X.env) (pos := pos) hk
  have fin : ∀ {s2 : Shared} {H2 M2 : Hp} {ι2 : List Addr} {μ2 : Mu} {us ws : List Value} {vs zs : List V} {ds es : List D}, Inv X pins σ H2 s2 → Sto X.K G ι2 M2 H2 μ2 → Vals vs us → Vals zs ws → Reps X.K G ι2 M2 vs ds → Reps X.K G ι2 M2 zs es → FinD X G W σ ι2 M2 (callKS S run j ds es μ2) Q →
      wpAny (model X.prog X.w) X.A (call (.ref (G.gA sh.f)) us (sh.ks.zip ws)) (EP X pins σ Q) X.xe s2 := fun {s2 H2 M2 ι2 μ2 us ws vs zs ds es} I2 S2 r rz rs rk q => by
    have q2 : FinD X G W σ ι2 M2 (if ds.length = sh.n ∧ es.length = sh.ks.length then run sh.f (bindS sh fi.dds ds es) μ2 else .stuck) Q := by
      unfold callKS at q
      rw [hs] at q
      dsimp only at q
      rw [hf] at q
      exact q
    by_cases c : ds.length = sh.n ∧ es.length = sh.ks.length
    · rw [if_pos c] at q2
      exact runK ow.ar ow.ok hb hr O.tk I2 S2 r rz (rs.length.trans c.1) (rk.length.trans c.2) (hB G ι2 M2 vs zs ds es rs rk) q2
    · rw [if_neg c] at q2
      exact q2.elim
  cases l with
  | nil =>
    rw [h0 rfl] at q
    refine PySem.W.callWith_KW0 (h₀ := X.base) I.ok.mod.kin hkp f1 (hkw.go I S' R (Fin3.bind q) fun ws s2 zs ι2 M2 H2 μ2 as I2 r2 p2 x2 S2 R2 rws q2 => ⟨I2.kIn, ?_⟩) (any_or rfl f3)
    rw [f2]
    exact fin I2 S2 .nil r2 .nil rws q2
  | cons e es =>
    have hp2 : (plainE e && plainL es) = true := hp
    rw [Bool.and_eq_true] at hp2
    refine PySem.W.callWith_KW (h₀ := X.base) I.ok.mod.kin hkp f1 (ha.go I S' R (Fin3.bind q) fun us s1 vs ι1 M1 H1 μ1 ds I1 r1 p1 x1 S1 R1 rvs q1 => hkw.go I1 S1 R1 (Fin3.bind q1) fun ws s2 zs ι2 M2 H2 μ2 as I2 r2 p2 x2 S2 R2 rws q2 => ⟨I2.kIn, ?_⟩) (any_or (star_any hp) f3) (star_plain hp2.1)
    rw [f2]
    exact fin I2 S2 r1 r2 (rvs.mono p2 x2) rws q2
/-! ### new objects -/
/-- C(..): every parameter by place -/
theorem e_mkO (O : XOk X G W S fd k run sc N cm ev) (hcm : cm = true) {c : Nat} {ci : Cd} {z : Bool} (hc : S.cs[c]? = some ci) (hx : ci.nm = x) (hi : (S.mi c "__init__").isSome = true) (hg : glB sc x = true) (hn : okN x = true) (hp : plainL l = true) (ha : A3 X G W l Fa) (h0 : l = [] → Fa = aNil) :
    E3 X G W (.Call (.Name x p) l [] pos) (fun δ μ => (Fa δ μ).bind fun ds μ => mkS z c (fun o m => mrun S run c "__init__" (o ++ ds) m) μ) := by
  have hm := O.tb.glc c ci hc
  rw [hx] at hm
  have hr : Room (k + 1) X.A := (O.room hcm).mono (by omega)
  refine ⟨fun pins s σ H Q I ⟨ι, M, δ, μ, S', R, q⟩ => ?_⟩
  refine wpAny_Call_Name_kw (ld_glob I (O.gl hg) hm ?_ (okN_of hn).1)
  have known : ∀ {M2 : Hp} {ι2 : List Addr} {μ2 : Mu} {ds : List D}, FinD X G W σ ι2 M2 (mkS z c (fun o m => mrun S run c "__init__" (o ++ ds) m) μ2) Q → ∃ i, S.mi c "__init__" = some i ∧ FinD X G W σ ι2 M2 (mkS z c (fun o m => run i (o ++ ds) m) μ2) Q := fun {M2 ι2 μ2 ds} q => by
    unfold mkS mrun at q
    cases e : S.mi c "__init__" with
    | none => rw [e] at q; exact q.elim
    | some i => rw [e] at q; exact ⟨i, rfl, q⟩
  have fin : ∀ {s2 : Shared} {H2 M2 : Hp} {ι2 : List Addr} {μ2 : Mu} {us : List Value} {vs : List V} {ds : List D}, Inv X pins σ H2 s2 → Sto X.K G ι2 M2 H2 μ2 → Vals vs us → Reps X.K G ι2 M2 vs ds → FinD X G W σ ι2 M2 (mkS z c (fun o m => mrun S run c "__init__" (o ++ ds) m) μ2) Q →
      wpAny (model X.prog X.w) X.A (call (.ref (G.cA c)) us) (EP X pins σ Q) X.xe s2 := fun {s2 H2 M2 ι2 μ2 us vs ds} I2 S2 r rs q => by
    obtain ⟨i, e, q⟩ := known q
    have mk := O.tb.mkr c i e
    cases ef : S.fs[i]? with
    | none =>
      unfold mkS at q
      dsimp only at q
      rw [O.tb.no i ef] at q
      exact q.elim
    | some fi =>
      have ow := O.tb.own i fi ef
      have l1 : ds.length + 1 = fi.ps.length := by
        by_cases h : ([D.cell μ2.length] ++ ds).length = fi.ps.length
        · simpa using h
        · unfold mkS at q
          dsimp only at q
          rw [ow.ar _ _ h] at q
          exact q.elim
      exact runMk (ks := []) (ws := []) (zs := []) (es := []) (n := ds.length) (B := fun ds _ => ds) ow.ar ow.ok (kbn_of ow.bn l1) (fun _ _ _ _ _ _ _ _ r _ => r) mk hr O.tk I2 S2 r .nil rfl rfl rs .nil q
  have hkp : PySem.W.keepIn X.K (.ref (G.cA c)) = true := by
    cases e : S.mi c "__init__" with
    | none => rw [e] at hi; cases hi
    | some i => exact (O.tb.mkr c i e).kp
  cases l with
  | nil =>
    rw [h0 rfl] at q
    exact PySem.W.callWith_K0 I.kIn hkp (fin (ds := []) I S' .nil .nil q)
  | cons e es =>
    have hp2 : (plainE e && plainL es) = true := hp
    rw [Bool.and_eq_true] at hp2
    refine PySem.W.callWith_K (h₀ := X.base) I.ok.mod.kin hkp (ha.go I S' R (Fin3.bind q) fun us s2 ws ι2 M2 H2 μ2 as I2 r2 p2 x2 S2 R2 rws q2 => ⟨I2.kIn, ?_⟩) (star_plain hp2.1) (star_any hp2.2)
    exact fin I2 S2 r2 rws q2
/-- C(.., k = v): by a shape -/
theorem e_mkKO (O : XOk X G W S fd k run sc N cm ev) (hcm : cm = true) {c j n : Nat} {ci : Cd} {sh : Sh} {fi : Fd} {kl : List Keyword} (hc : S.cs[c]? = some ci) (hx : ci.nm = x) (hs : S.sh[j]? = some sh) (hf : S.fs[sh.f]? = some fi) (hi : S.mi c "__init__" = some sh.f) (hN : sh.n = n + 1) (hg : glB sc x = true) (hn : okN x = true) (hp : plainL l = true) (hk : namedL kl sh.ks = true)
    (ha : A3 X G W l Fa) (h0 : l = [] → Fa = aNil) (hkw : K3 X G W kl Fk) :
    E3 X G W (.Call (.Name x p) l kl pos) (fun δ μ => (Fa δ μ).bind fun ds μ => (Fk δ μ).bind fun zs μ => mkS true c (fun o m => callKS S run j (o ++ ds) zs m) μ) := by
  have hm := O.tb.glc c ci hc
  rw [hx] at hm
  have hr : Room (k + 1) X.A := (O.room hcm).mono (by omega)
  have mk := O.tb.mkr c _ hi
  obtain ⟨g, gV, hb, hB⟩ := O.tb.sh j sh fi hs hf
  have ow := O.tb.own sh.f fi hf
  refine ⟨fun pins s σ H Q I ⟨ι, M, δ, μ, S', R, q⟩ => ?_⟩
  refine wpAny_Call_Name_kw (ld_glob I (O.gl hg) hm ?_ (okN_of hn).1)
  obtain ⟨f1, f2, f3⟩ := kw_facts (env := X.env) (pos := pos) hk
  have fin : ∀ {s2 : Shared} {H2 M2 : Hp} {ι2 : List Addr} {μ2 : Mu} {us ws : List Value} {vs zs : List V} {ds es : List D}, Inv X pins σ H2 s2 → Sto X.K G ι2 M2 H2 μ2 → Vals vs us → Vals zs ws → Reps X.K G ι2 M2 vs ds → Reps X.K G ι2 M2 zs es →
      FinD X G W σ ι2 M2 (mkS true c (fun o m => callKS S run j (o ++ ds) es m) μ2) Q → wpAny (model X.prog X.w) X.A (call (.ref (G.cA c)) us (sh.ks.zip ws)) (EP X pins σ Q) X.xe s2 := fun {s2 H2 M2 ι2 μ2 us ws vs zs ds es} I2 S2 r rz rs rk q => by
    have e : ∀ m, callKS S run j ([.cell μ2.length] ++ ds) es m = if ([D.cell μ2.length] ++ ds).length = sh.n ∧ es.length = sh.ks.length then run sh.f (bindS sh fi.dds ([.cell μ2.length] ++ ds) es) m else .stuck := fun m => by
      unfold callKS
      rw [hs]
      dsimp only
      rw [hf]
    unfold mkS at q
    dsimp only at q
    rw [e] at q
    by_cases cc : ([D.cell μ2.length] ++ ds).length = sh.n ∧ es.length = sh.ks.length
    · rw [if_pos cc] at q
      have l1 : ds.length = n := by have := cc.1; simp at this; omega
      exact runMk (z := true) (n := n) (B := fun ds es => bindS sh fi.dds ds es) ow.ar ow.ok (hN ▸ hb) (fun ι M vs zs ds es _ _ r rk => hB G ι M vs zs ds es r rk) mk hr O.tk I2 S2 r rz l1 cc.2 rs rk q
    · rw [if_neg cc] at q
      exact q.elim
  cases l with
  | nil =>
    rw [h0 rfl] at q
    refine PySem.W.callWith_KW0 (h₀ := X.base) I.ok.mod.kin mk.kp f1 (hkw.go I S' R (Fin3.bind q) fun ws s2 zs ι2 M2 H2 μ2 as I2 r2 p2 x2 S2 R2 rws q2 => ⟨I2.kIn, ?_⟩) (any_or rfl f3)
    rw [f2]
    exact fin I2 S2 .nil r2 .nil rws q2
  | cons e es =>
    have hp2 : (plainE e && plainL es) = true := hp
    rw [Bool.and_eq_true] at hp2
    refine PySem.W.callWith_KW (h₀ := X.base) I.ok.mod.kin mk.kp f1 (ha.go I S' R (Fin3.bind q) fun us s1 vs ι1 M1 H1 μ1 ds I1 r1 p1 x1 S1 R1 rvs q1 => hkw.go I1 S1 R1 (Fin3.bind q1) fun ws s2 zs ι2 M2 H2 μ2 as I2 r2 p2 x2 S2 R2 rws q2 => ⟨I2.kIn, ?_⟩) (any_or (star_any hp) f3) (star_plain hp2.1)
    rw [f2]
    exact fin I2 S2 r1 r2 (rvs.mono p2 x2) rws q2
/-! ### attributes -/
theorem fld_at (O : XOk X G W S fd k run sc N cm ev) {c j : Nat} (h : S.fld c x = some j) : (G.fN c)[j]? = some x := by
  unfold Sig.fld at h
  rw [O.tb.fn c]
  cases e : S.cs[c]? with
  | none => rw [e] at h; cases h
  | some ci =>
    rw [e] at h
    dsimp only at h ⊢
    obtain ⟨l, h1, _⟩ := List.findIdx?_eq_some_iff_getElem.mp h
    rw [List.getElem?_eq_getElem l]
    exact congrArg some (by simpa using h1)
theorem e_attrO (O : XOk X G W S fd k run sc N cm ev) (he : E3 X G W e Fe) (h1 : notSuper e = true) : E3 X G W (.Attribute e x pos) (dUn (attrS S x) Fe) :=
  pe_imp (pe_fld he (attr_base h1)) fun σ H Q ⟨ι, M, δ, μ, S', R, f⟩ => ⟨ι, M, δ, μ, S', R, (Fin3.bind f).imp fun ι1 M1 H1 μ1 d p1 x1 S1 q v rv => by
    unfold attrS at q
    cases e1 : insOf d μ1 with
    | none => rw [e1] at q; exact q.elim
    | some p =>
      obtain ⟨c, ds⟩ := p
      rw [e1] at q
      dsimp only at q
      cases e2 : S.fld c x with
      | none => rw [e2] at q; exact q.elim
      | some j =>
        rw [e2] at q
        dsimp only at q
        cases e3 : ds[j]? with
        | none => rw [e3] at q; exact q.elim
        | some d' =>
          rw [e3] at q
          obtain ⟨a, dx, vs, rfl, h, _, r⟩ := S1.ins e1 rv
          obtain ⟨u, h1, h2⟩ := r.getD e3
          have fx := fld_at O e2
          have ne : G.fN c ≠ [] := fun z => by rw [z] at fx; cases fx
          exact ⟨a, G.cA c, dx, _, u, rfl, h, O.tb.gok.cls c ne, O.tb.gok.noat c j x fx, zip_lookup (O.tb.gok.nd c) fx h1, q.ok S1 u h2⟩⟩
theorem s_attrO (O : XOk X G W S fd k run sc N cm ev) {pos' : Pos} (he : E3 X G W e Fe) (ho : E3 X G W o Fo) (hs : swapsWith e (some (.Attribute o x pos')) pos.line X.env = pure false) : S3 X G W (.Assign [.Attribute o x pos'] e pos) (fun δ μ => (Fe δ μ).toS δ fun d μ => (Fo δ μ).toS δ fun o μ => match o with
    | .cell i => (match μ[i]? with
      | some (.ins c ds) => (match S.fld c x with
        | some j => if j < ds.length then .nx δ (μ.set i (.ins c (ds.set j d))) else if j = ds.length then .nx δ (μ.set i (.ins c (ds ++ [d]))) else .stuck
        | none => .stuck)
      | _ => .stuck)
    | _ => .stuck) :=
  ps_imp (ps_fld ho he hs) fun E σ H ⟨ι, M, δ, μ, So, R, f⟩ => ⟨ι, M, δ, μ, So, R, (FinS.ofE R f).imp fun ι1 M1 H1 μ1 d p1 x1 S1 q v rv => by
    refine ⟨ι1, M1, δ, μ1, S1, R.mono p1 x1, (FinS.ofE (R.mono p1 x1) q).imp fun ι2 M2 H2 μ2 o p2 x2 S2 q2 ov ro => ?_⟩
    have R2 := (R.mono p1 x1).mono p2 x2
    have rv2 := rv.mono p2 x2
    cases o with
    | cell i =>
      obtain ⟨a, rfl, h⟩ := rep_cell ro
      dsimp only at q2
      cases e1 : μ2[i]? with
      | none => rw [e1] at q2; exact q2.elim
      | some cl =>
        rw [e1] at q2
        cases cl with
        | ins c ds =>
          dsimp only at q2
          cases e2 : S.fld c x with
          | none => rw [e2] at q2; exact q2.elim
          | some j =>
            rw [e2] at q2
            dsimp only at q2
            obtain ⟨_, dx, vs, h1, le, r⟩ := S2.at_ i a _ h e1
            have fx := fld_at O e2
            have ne : G.fN c ≠ [] := fun z => by rw [z] at fx; cases fx
            have jl := (List.getElem?_eq_some_iff.mp fx).1
            have l50 := O.tb.gok.len c
            refine ⟨a, G.cA c, dx, _, rfl, h1, O.tb.gok.cls c ne, O.tb.gok.noat c j x fx, by rw [List.length_zip]; omega, ?_⟩
            by_cases c1 : j < ds.length
            · rw [if_pos c1] at q2
              rw [zip_put_set (O.tb.gok.nd c) fx (by rw [r.length]; exact c1)]
              exact q2 ι2 M2 _ σ ⟨Pre.refl _, Ext.rfl', S2.write h ⟨dx, vs.set j v, upd_same, by simpa using le, r.set j rv2⟩⟩ R2
            · rw [if_neg c1] at q2
              by_cases c2 : j = ds.length
              · rw [if_pos c2] at q2
                have el : vs.length = j := by rw [r.length, c2]
                rw [zip_put_new (O.tb.gok.nd c) (by rw [el]; exact fx)]
                exact q2 ι2 M2 _ σ ⟨Pre.refl _, Ext.rfl', S2.write h ⟨dx, vs ++ [v], upd_same, by simp; omega, r.append (.cons rv2 .nil)⟩⟩ R2
              · rw [if_neg c2] at q2
                exact q2.elim
        | _ => exact q2.elim
    | _ => exact q2.elim⟩
/-! ### slices -/
abbrev FO := Env3 → PM (Option Int)
def tO (K : PySem.W.Frag) (G : Gx) (W : WX) (F : FO) : TO := fun σ H Q => ∃ ι M δ μ, Sto K G ι M H μ ∧ REnv K G ι M σ δ ∧ Fin3 K G W σ ι M (F δ μ) (fun ι' M' H' μ' o => Q o H')
abbrev O3 (X : Cx) (G : Gx) (W : WX) (e : Option Expr) (F : FO) : Prop := PO X e (tO X.K G W F)
theorem po_imp {t t' : TO} {e : Option Expr} (h : PO X e t) (k : ∀ σ H Q, t' σ H Q → t σ H Q) : PO X e t' := ⟨fun pins s σ H Q I q => h.run pins s σ H Q I (k σ H Q q)⟩
theorem o_none : O3 X G W none (fun _ μ => .ok none μ) := po_imp po_none fun σ H Q ⟨ι, M, δ, μ, S', R, f⟩ => Fin3.ok f S'
theorem o_some (he : E3 X G W e Fe) : O3 X G W (some e) (fun δ μ => (Fe δ μ).bind fun d μ => match d with
    | .int i => .ok (some i) μ
    | _ => .stuck) := po_imp (po_some he) fun σ H Q ⟨ι, M, δ, μ, S', R, f⟩ => ⟨ι, M, δ, μ, S', R, (Fin3.bind f).imp fun ι1 M1 H1 μ1 d p1 x1 S1 q v rv => by
  cases d with
  | int i => exact ⟨i, rep_int rv, Fin3.ok q S1⟩
  | _ => exact q.elim⟩
theorem cut_reps {K : PySem.W.Frag} {ι : List Addr} {M : Hp} {vs : List V} {ds : List D} (r : Reps K G ι M vs ds) (lo hi : Option Int) : Reps K G ι M (cutV vs lo hi) (cutD ds lo hi) := by
  unfold cutV cutD
  rw [r.length]
  exact Reps.take _ (Reps.drop _ r)
theorem cutD_whole {ds : List D} {lo hi : Option Int} (h : HT.sIx ds.length 0 lo = 0 ∧ HT.sIx ds.length ds.length hi = ds.length) : cutD ds lo hi = ds := by
  unfold cutD
  rw [h.1, h.2]
  simp
def rSlD (K : PySem.W.Frag) (G : Gx) (W : WX) (c : Bool) : V → Option Int → Option Int → Hp → VK → Prop := fun v lo hi H Q => ∃ σ ι M μ x, Sto K G ι M H μ ∧ Rep K G ι M v x ∧ Fin3 K G W σ ι M (slS c x lo hi μ) (fun ι' M' H' _ d => ∀ w, Rep K G ι' M' w d → Q w H')
theorem sl_data {c : Bool} : SlR X (rSlD X.K G W c) := by
  intro pins s σ H v vv vl vu lo hi sl Q I rv hs pl pu h
  obtain ⟨σ', ι, M, μ, x, S', rx, q⟩ := h
  have fl : ∀ a xs ds, v = .ref a → SqL X.K H a xs → Reps X.K G ι M xs ds → Fin3 X.K G W σ' ι M (if c = true then .ok (.cell μ.length) (μ ++ [.lst (cutD ds lo hi)]) else .ok (.lst (cutD ds lo hi)) μ) (fun ι' M' H' _ d => ∀ w, Rep X.K G ι' M' w d → Q w H') →
      ∃ T id, typeLookup (.type T) "__getitem__" = pure (some (.builtin id)) ∧ s.TypeIs vv T ∧ wpAny (model X.prog X.w) X.A (getItem vv (.ref sl)) (EP X pins σ Q) X.xe s := fun a xs ds ev hx rs q => by
    refine sl_list pins s σ H v vv vl vu lo hi sl Q I rv hs pl pu ⟨a, xs, ev, hx, fun p hp => ?_⟩
    cases c with
    | true => exact Fin3.new q S' hp ⟨_, upd_same, (cut_reps rs lo hi).mono (Pre.app _ _) Ext.rfl'⟩
    | false => exact Fin3.frz q S' hp fun z => .lst upd_same ((cut_reps rs lo hi).mono (Pre.refl _) z)
  cases x with
  | str z =>
    have q2 : Fin3 X.K G W σ' ι M (if z.length ≤ 1000000 then .ok (.str (cutS z lo hi)) μ else .stuck) (fun ι' M' H' _ d => ∀ w, Rep X.K G ι' M' w d → Q w H') := q
    by_cases hz : z.length ≤ 1000000
    · rw [if_pos hz] at q2
      exact sl_str pins s σ H v vv vl vu lo hi sl Q I rv hs pl pu ⟨z, rep_str rx, line_of hz, q2.ok S' _ .str⟩
    · rw [if_neg hz] at q2
      exact q2.elim
  | tup ds =>
    obtain ⟨a, xs, rfl, ht, rs⟩ := rep_tup rx
    have q2 : Fin3 X.K G W σ' ι M (.ok (.tup (cutD ds lo hi)) μ) (fun ι' M' H' _ d => ∀ w, Rep X.K G ι' M' w d → Q w H') := q
    refine sl_tupA pins s σ H _ vv vl vu lo hi sl Q I rv hs pl pu ⟨a, xs, rfl, ht.ext S'.fz, fun hw => ?_, fun _ p hp => ?_⟩
    · refine q2.ok S' _ ?_
      rw [cutD_whole (by rw [← rs.length]; exact hw)]
      exact rx
    · exact Fin3.frz q2 S' hp fun z => .tup (SqT.of upd_same) ((cut_reps rs lo hi).mono (Pre.refl _) z)
  | lst ds =>
    obtain ⟨a, xs, rfl, ht, rs⟩ := rep_lst rx
    exact fl a xs ds rfl (SqL.of (S'.fz _ _ ht)) rs q
  | klst ds =>
    obtain ⟨a, xs, rfl, ht, rs⟩ := rep_klst rx
    exact fl a xs ds rfl (ht.ext S'.fz) rs q
  | cell i =>
    have q2 : Fin3 X.K G W σ' ι M (match (match μ[i]? with
      | some (.lst ds) => some ds
      | _ => none) with
      | some ds => if c = true then .ok (.cell μ.length) (μ ++ [.lst (cutD ds lo hi)]) else .ok (.lst (cutD ds lo hi)) μ
      | none => .stuck) (fun ι' M' H' _ d => ∀ w, Rep X.K G ι' M' w d → Q w H') := q
    cases e : μ[i]? with
    | none => rw [e] at q2; exact q2.elim
    | some cl =>
      rw [e] at q2
      cases cl with
      | lst ds =>
        obtain ⟨a, xs, rfl, _, h, rs⟩ := S'.lst e rx
        exact fl a xs ds rfl (SqL.of h) rs q2
      | _ => exact q2.elim
  | _ => exact q.elim
theorem e_slO {c : Bool} {lo hi : Option Expr} {Fl Fh : FO} {p2 : Pos} (he : E3 X G W e Fe) (hl : O3 X G W lo Fl) (hu : O3 X G W hi Fh) : E3 X G W (.Subscript e (.Slice lo hi none p2) pos) (fun δ μ => (Fe δ μ).bind fun x μ => (Fl δ μ).bind fun l μ => (Fh δ μ).bind fun h μ => slS c x l h μ) :=
  pe_imp (pe_slice (sl_data (c := c)) he hl hu) fun σ H Q ⟨ι, M, δ, μ, S', R, f⟩ => ⟨ι, M, δ, μ, S', R, (Fin3.bind f).imp fun ι1 M1 H1 μ1 d p1 x1 S1 q v rv =>
    ⟨ι1, M1, δ, μ1, S1, R.mono p1 x1, (Fin3.bind q).imp fun ι2 M2 H2 μ2 l p2 x2 S2 q2 => ⟨ι2, M2, δ, μ2, S2, (R.mono p1 x1).mono p2 x2, (Fin3.bind q2).imp fun ι3 M3 H3 μ3 h p3 x3 S3 q3 =>
      ⟨σ, ι3, M3, μ3, d, S3, (rv.mono p2 x2).mono p3 x3, q3⟩⟩⟩⟩
/-! ### chains -/
@[reducible] def dChain (g h : D → D → PM D) (Fa Fb Fc : FE) : FE := fun δ μ => (Fa δ μ).bind fun x μ => (Fb δ μ).bind fun y μ => (g x y μ).bind fun r μ => match r with
  | .bl true => (Fc δ μ).bind fun z μ => h y z μ
  | .bl false => .ok (.bl false) μ
  | _ => .stuck
theorem e_cmp2 {a b c : Expr} {Fa Fb Fc : FE} {op op' : CmpOp} {g h : D → D → PM D} (ho : OpG X G W (compareOp op) g) (ho' : OpG X G W (compareOp op') h) (ha : E3 X G W a Fa) (hb : E3 X G W b Fb) (hc : E3 X G W c Fc) (hm : lastMarks [op, op'] [b, c] = false) :
    E3 X G W (.Compare a [op, op'] [b, c] pos) (dChain g h Fa Fb Fc) := by
  refine ⟨fun pins s σ H Q I ⟨ι, M, δ, μ, S', R, f⟩ => ?_⟩
  refine Compare_chain (ha.go I S' R (Fin3.bind f) fun u1 s1 v1 ι1 M1 H1 μ1 d1 I1 r1 p1 x1 S1 R1 rv1 f1 => chain_link (hb.go I1 S1 R1 (Fin3.bind f1) fun u2 s2 v2 ι2 M2 H2 μ2 d2 I2 r2 p2 x2 S2 R2 rv2 f2 => ?_)) hm
  have f3 := Fin3.bind f2
  refine thn (ho pins s2 σ ι2 M2 H2 μ2 d1 d2 v1 v2 u1 u2 (fun w H' => ∃ k, w = .bl k ∧ ∃ ι3 M3 μ3, Pre ι2 ι3 ∧ Ex M2 M3 ∧ Sto X.K G ι3 M3 H' μ3 ∧ FinD X G W σ ι3 M3 (if k = true then (Fc δ μ3).bind fun z μ => h d2 z μ else .ok (.bl false) μ3) Q) I2 r1 r2 S2 (rv1.mono p2 x2) rv2 (Fin3.imp f3 fun ι' M' H' μ' d p x S' q w rw => ?_)) fun c s3 ⟨w, H3, I3, rw, k, e, ι3, M3, μ3, p3, x3, S3, q3⟩ => ?_
  · cases d with
    | bl k => cases k with
      | true => exact ⟨true, rep_bl rw, ι', M', μ', p, x, S', q⟩
      | false => exact ⟨false, rep_bl rw, ι', M', μ', p, x, S', q⟩
    | _ => exact q.elim
  · subst e
    cases rw
    refine wpAny_truthy_bool ?_
    cases k with
    | false => exact ite_ff ⟨.bl false, H3, I3, rfl, Fin3.ok (a := D.bl false) q3 S3 _ .bl⟩
    | true =>
      refine ite_tt (chain_last (hc.go I3 S3 (R2.mono p3 x3) (Fin3.bind q3) fun u4 s4 v4 ι4 M4 H4 μ4 d4 I4 r4 p4 x4 S4 R4 rv4 f4 => ?_))
      exact ho' pins s4 σ ι4 M4 H4 μ4 d2 d4 v2 v4 u2 u4 Q I4 r2 r4 S4 ((rv2.mono p3 x3).mono p4 x4) rv4 f4
theorem t_cmp2 {a b c : Expr} {Fa Fb Fc : FE} {op op' : CmpOp} {g h : D → D → PM D} (ho : OpG X G W (compareOp op) g) (ho' : OpG X G W (compareOp op') h) (ha : E3 X G W a Fa) (hb : E3 X G W b Fb) (hc : E3 X G W c Fc) (hm : lastMarks [op, op'] [b, c] = false) :
    T3 X G W (.Compare a [op, op'] [b, c] pos) (asB (dChain g h Fa Fb Fc)) := by
  refine ⟨fun pins s σ H Q I ⟨ι, M, δ, μ, S', R, f⟩ => ?_⟩
  have f' : Fin3 X.K G W σ ι M ((asB (dChain g h Fa Fb Fc) δ μ).bind fun b m => .ok b m) (fun _ _ H' _ b => Q b H') := by
    cases h : asB (dChain g h Fa Fb Fc) δ μ with
    | ok d m => rw [h] at f; exact f
    | exc c fs m => rw [h] at f; exact f
    | stuck => rw [h] at f; exact f
  have f0 := Fin3.asB f'
  refine isTrue_chain (ha.go I S' R (Fin3.bind f0) fun u1 s1 v1 ι1 M1 H1 μ1 d1 I1 r1 p1 x1 S1 R1 rv1 f1 => test_link (hb.go I1 S1 R1 (Fin3.bind f1) fun u2 s2 v2 ι2 M2 H2 μ2 d2 I2 r2 p2 x2 S2 R2 rv2 f2 => ?_)) hm
  have f3 := Fin3.bind f2
  refine thn (ho pins s2 σ ι2 M2 H2 μ2 d1 d2 v1 v2 u1 u2 (fun w H' => ∃ k, w = .bl k ∧ ∃ ι3 M3 μ3, Pre ι2 ι3 ∧ Ex M2 M3 ∧ Sto X.K G ι3 M3 H' μ3 ∧ Fin3 X.K G W σ ι3 M3 (if k = true then (Fc δ μ3).bind fun z μ => h d2 z μ else .ok (.bl false) μ3) (fun ι' M' H' μ' d => ∃ b, d = D.bl b ∧ Fin3 X.K G W σ ι' M' (Res.ok b μ') fun _ _ H' _ b => Q b H')) I2 r1 r2 S2 (rv1.mono p2 x2) rv2 (Fin3.imp f3 fun ι' M' H' μ' d p x S' q w rw => ?_)) fun c s3 ⟨w, H3, I3, rw, k, e, ι3, M3, μ3, p3, x3, S3, q3⟩ => ?_
  · cases d with
    | bl k => cases k with
      | true => exact ⟨true, rep_bl rw, ι', M', μ', p, x, S', q⟩
      | false => exact ⟨false, rep_bl rw, ι', M', μ', p, x, S', q⟩
    | _ => exact q.elim
  · subst e
    cases rw
    refine wpAny_truthy_bool ?_
    cases k with
    | false =>
      obtain ⟨b, e, q4⟩ := Fin3.ok (a := D.bl false) q3 S3
      cases e
      exact ite_ff ⟨H3, I3, Fin3.ok q4 S3⟩
    | true =>
      refine ite_tt (test_last (hc.go I3 S3 (R2.mono p3 x3) (Fin3.bind q3) fun u4 s4 v4 ι4 M4 H4 μ4 d4 I4 r4 p4 x4 S4 R4 rv4 f4 => ?_))
      refine thn (ho' pins s4 σ ι4 M4 H4 μ4 d2 d4 v2 v4 u2 u4 (fun w H' => ∃ b, w = .bl b ∧ Q b H') I4 r2 r4 S4 ((rv2.mono p3 x3).mono p4 x4) rv4 (Fin3.imp f4 fun ι' M' H' μ' d p x S' ⟨b, e, q⟩ w rw => ?_)) fun c s5 ⟨w, H5, I5, rw, b, e, q⟩ => ?_
      · subst e
        exact ⟨b, rep_bl rw, Fin3.ok q S'⟩
      · subst e
        cases rw
        exact wpAny_truthy_bool ⟨H5, I5, q⟩
end
end L3

set_option maxRecDepth 100000
set_option maxHeartbeats 2000000
/-! L4x: exceptions: an __init__ that stores, raise, try, the exception in hand. -/
namespace L3
open PySem PySem.Spec PyProof.Rows L2
/-! ### another exception in hand -/
def Gx.we (G : Gx) (z : Option (Nat × Addr × Value × Option Addr)) : Gx := { G with eA := z }
section
variable {K : PySem.W.Frag} {z : Option (Nat × Addr × Value × Option Addr)}
mutual
theorem Rep.we {G : Gx} {ι : List Addr} {M : Hp} : ∀ {v : V} {d : D}, Rep K G ι M v d → Rep K (G.we z) ι M v d
  | _, _, .non => .non
  | _, _, .bl => .bl
  | _, _, .int => .int
  | _, _, .str => .str
  | _, _, .ty => .ty
  | _, _, .fn (n := n) => .fn (G := G.we z) (n := n)
  | _, _, .tup h r => .tup h (Reps.we r)
  | _, _, .lst h r => .lst h (Reps.we r)
  | _, _, .klst h r => .klst h (Reps.we r)
  | _, _, .ins h l r => .ins (G := G.we z) h l (Reps.we r)
  | _, _, .cell h => .cell h
theorem Reps.we {G : Gx} {ι : List Addr} {M : Hp} : ∀ {vs : List V} {ds : List D}, Reps K G ι M vs ds → Reps K (G.we z) ι M vs ds
  | _, _, .nil => .nil
  | _, _, .cons h r => .cons (Rep.we h) (Reps.we r)
end
variable {G : Gx} {ι ι' : List Addr} {M M' H H' : Hp}
theorem rep_we : Rep K (G.we z) = Rep K G := by
  funext ι M v d
  exact propext ⟨fun h => Rep.we (G := G.we z) (z := G.eA) h, Rep.we⟩
theorem reps_we : Reps K (G.we z) = Reps K G := by
  funext ι M v d
  exact propext ⟨fun h => Reps.we (G := G.we z) (z := G.eA) h, Reps.we⟩
theorem celOk_we : CelOk K (G.we z) = CelOk K G := by
  funext ι M H a c
  cases c with
  | lst ds => show (∃ xs, H a = some (.lst xs) ∧ Reps K (G.we z) ι M xs ds) = _; rw [reps_we]; rfl
  | ins c ds => show (∃ dx vs, H a = some (.ins (G.cA c) dx ((G.fN c).zip vs)) ∧ vs.length ≤ (G.fN c).length ∧ Reps K (G.we z) ι M vs ds) = _; rw [reps_we]; rfl
  | dct kds => show (∃ us, H a = some (.dK us) ∧ us.map (·.1) = kds.map (·.1) ∧ Reps K (G.we z) ι M (us.map (·.2)) (kds.map (·.2))) = _; rw [reps_we]; rfl
theorem sto_we : Sto K (G.we z) = Sto K G := by
  funext ι M H μ
  exact propext ⟨fun S => ⟨S.fz, S.len, S.nd, by have h := S.at_; rw [celOk_we] at h; exact h⟩, fun S => ⟨S.fz, S.len, S.nd, by rw [celOk_we]; exact S.at_⟩⟩
theorem nx_we : Nx K (G.we z) = Nx K G := by
  funext ι M ι' M' H' μ
  exact propext ⟨fun n => ⟨n.pre, n.ext, by have h := n.sto; rw [sto_we] at h; exact h⟩, fun n => ⟨n.pre, n.ext, by rw [sto_we]; exact n.sto⟩⟩
theorem xv_we : xv (G.we z) = xv G := by
  funext c
  cases c <;> rfl
theorem xdOk_we : XdOk K (G.we z) = XdOk K G := by
  funext ι M c fs dx
  cases fs with
  | none => cases c <;> rfl
  | some ds =>
    cases c with
    | own c => show (∃ a us, dx = some a ∧ M a = some (.xd us) ∧ ds.length = (G.xN c).length ∧ ∀ (j : Nat) (x : Str) (d : D), (G.xN c)[j]? = some x → ds[j]? = some d → ∃ v, us.lookup x = some v ∧ Rep K (G.we z) ι M v d) = _; rw [rep_we]; rfl
    | ty n => rfl
theorem fin3_we {W : WX} {σ : L2.St} {α : Type} {r : Res α} {P : List Addr → Hp → Hp → Mu → α → Prop} : Fin3 K (G.we z) W σ ι M r P = Fin3 K G W σ ι M r P := by
  cases r with
  | ok a μ => show (∀ ι' M' H', Nx K (G.we z) ι M ι' M' H' μ → P ι' M' H' μ a) = _; rw [nx_we]; rfl
  | exc c fs μ => show (∀ ι' M' H' dx, Nx K (G.we z) ι M ι' M' H' μ → XdOk K (G.we z) ι' M' c fs dx → W (xv (G.we z) c) dx σ H') = _; rw [nx_we, xdOk_we, xv_we]; rfl
  | stuck => rfl
theorem sp3_we {n : Nat} {F : List D → PM D} : sp3 K (G.we z) n F = sp3 K G n F := by
  funext vs H Q E
  show (vs.length = n ∧ ∃ ι M μ ds, Sto K (G.we z) ι M H μ ∧ Reps K (G.we z) ι M vs ds ∧ Fin3 K (G.we z) (fun c d _ H => E c d H) [] ι M (F ds μ) (fun ι' M' H' _ d => ∀ v, Rep K (G.we z) ι' M' v d → Q v H')) = _
  rw [sto_we, reps_we, rep_we]
  simp only [fin3_we]
  rfl
end
section
variable {P : Program} {w : World} {K : PySem.W.Frag} {mg : Str → Option Value} {base : Heap} {G : Gx} {S : Sig} {fd : Nat → FuncData} {k : Nat} {run : Nat → List D → PM D} {z : Option (Nat × Addr × Value × Option Addr)}
theorem tval_we : tval (G.we z) = tval G := by
  funext t
  cases t <;> rfl
theorem Tb.we (T : Tb P w K mg base G S fd k run) : Tb P w K mg base (G.we z) S fd k run where
  gok := ⟨T.gok.nd, T.gok.cls, T.gok.noat, T.gok.len⟩
  fn := T.fn
  xn := T.xn
  xs := by rw [xv_we]; exact T.xs
  xc := T.xc
  own := fun i fi e => by
    obtain ⟨a, b, c⟩ := T.own i fi e
    exact ⟨a, by rw [sp3_we]; exact b, c⟩
  no := T.no
  sh := T.sh
  glf := T.glf
  glc := T.glc
  gcl := T.gcl
  ins := T.ins
  mt := T.mt
  mkr := T.mkr
  opc := T.opc
  rop := T.rop
  opi := T.opi
  kit := by rw [tval_we]; exact T.kit
  fr := T.fr
  con := by rw [rep_we]; exact T.con
  x0 := T.x0
  sm := T.sm
end
/-! ### an __init__ that stores its values -/
def asgB (self : Str) (N : List Str) (j : Nat) (f : Str) (st : Stmt) : Bool := match st with
  | .Assign [.Attribute (.Name y _) g _] (.Name p _) _ => decide (y = self) && (decide (g = f) && decide (N[j]? = some p))
  | _ => false
def xiB (self : Str) (N : List Str) : Nat → List Str → List Stmt → Bool
  | _, [], body => body.isEmpty
  | j, f :: fs, body => match body with
    | st :: r => asgB self N j f st && xiB self N (j + 1) fs r
    | [] => false
section
variable {X : Cx} {self : Str} {C a : Addr}
/-- stores from the slot j on, the dict at dx holding done -/
def tXi (C a : Addr) (j : Nat) (fs : List Str) : TS := fun D σ H => ∃ (dx : Addr) (done : List (Str × V)) (ys : List V), dx ≠ a ∧ σ[0]? = some (some (.ref a)) ∧ (∀ i y, ys[i]? = some y → σ[j + i]? = some (some y)) ∧ ys.length = fs.length ∧
  H a = some (exo a C (some dx)) ∧ H dx = some (exd dx done) ∧ done.length + fs.length ≤ 900 ∧ ∀ H', H' a = some (exo a C (some dx)) → H' dx = some (exd dx ((fs.zip ys).reverse ++ done)) → (∀ b, b ≠ a → b ≠ dx → H' b = H b) → D.nx σ H'
/-- .. the first one too -/
def tXi0 (C a : Addr) (j : Nat) (fs : List Str) : TS := fun D σ H => ∃ (ys : List V), σ[0]? = some (some (.ref a)) ∧ (∀ i y, ys[i]? = some y → σ[j + i]? = some (some y)) ∧ ys.length = fs.length ∧
  H a = some (exo a C none) ∧ fs.length ≤ 800 ∧ ∀ dx H', H dx = none → dx ≠ a → H' a = some (exo a C (some dx)) → H' dx = some (exd dx (fs.zip ys).reverse) → (∀ b, b ≠ a → b ≠ dx → H' b = H b) → D.nx σ H'
def NmOk (X : Cx) : Prop := ∀ x, x ∈ X.N → Vis X.env.scope x ∧ (x == ("__debug__" : Str)) = false ∧ (x == ("__classdict__" : Str)) = false
theorem xiB_cons {N : List Str} {j : Nat} {f : Str} {fs : List Str} {body : List Stmt} (h : xiB self N j (f :: fs) body = true) : ∃ p1 p2 q p3 p4 r, body = .Assign [.Attribute (.Name self p1) f p2] (.Name q p3) p4 :: r ∧ N[j]? = some q ∧ xiB self N (j + 1) fs r = true := by
  cases body with
  | nil => cases h
  | cons st r =>
    obtain ⟨h1, h2⟩ := Bool.and_eq_true_iff.mp (show (asgB self N j f st && xiB self N (j + 1) fs r) = true from h)
    unfold asgB at h1
    split at h1
    · simp only [Bool.and_eq_true, decide_eq_true_eq] at h1
      obtain ⟨rfl, rfl, hq⟩ := h1
      exact ⟨_, _, _, _, _, _, rfl, hq, h2⟩
    · cases h1
theorem xi_more (T : OexC X.K C) (hv : NmOk X) (h0 : X.N[0]? = some self) (fs : List Str) : ∀ (j : Nat) (body : List Stmt), (∀ x, x ∈ fs → PySem.W.findIn X.K (.ref C) x = some none) → xiB self X.N j fs body = true → PSs X body (tXi C a j fs) := by
  induction fs with
  | nil =>
    intro j body hf h
    cases body with
    | nil => exact pss_imp pss_nil fun D σ H ⟨dx, done, ys, hn, s0, s1, s2, s3, s4, s5, s6⟩ => s6 H s3 (by cases ys with
      | nil => exact s4
      | cons _ _ => cases s2) fun _ _ _ => rfl
    | cons _ _ => simp [xiB] at h
  | cons f fs ih =>
    intro j body hf h
    obtain ⟨p1, p2, q, p3, p4, r, rfl, hq, hr⟩ := xiB_cons h
    obtain ⟨v1, v2, v3⟩ := hv _ (List.mem_of_getElem? h0)
    obtain ⟨u1, u2, u3⟩ := hv _ (List.mem_of_getElem? hq)
    refine pss_imp (pss_cons (ps_ost (pe_var h0 v1 v2 v3) (pe_var hq u1 u2 u3)) (ih (j + 1) r (fun x hx => hf x (List.mem_cons_of_mem _ hx)) hr)) ?_
    rintro D σ H ⟨dx, done, ys, hne, s0, s1, s2, s3, s4, s5, s6⟩
    cases ys with
    | nil => cases s2
    | cons y0 ys =>
      simp only [List.length_cons] at s5 s2
      refine ⟨y0, by simpa using s1 0 y0 rfl, .ref a, s0, a, C, rfl, T, hf _ (List.mem_cons_self ..), .inr ⟨dx, done, s3, s4, by omega, ?_⟩⟩
      refine ⟨dx, (f, y0) :: done, ys, hne, s0, fun i y e => by
        have := s1 (i + 1) y (by simpa using e)
        rw [show j + 1 + i = j + (i + 1) by omega]
        exact this, by omega, by rw [upd_ne (Ne.symm hne)]; exact s3, upd_same, by simp only [List.length_cons]; omega, fun H' e1 e2 e3 => s6 H' e1 ?_ fun b b1 b2 => (e3 b b1 b2).trans (upd_ne b2)⟩
      rw [e2]
      simp
theorem xi_all (T : OexC X.K C) (hv : NmOk X) (h0 : X.N[0]? = some self) {fs : List Str} {j : Nat} {body : List Stmt} (hf : ∀ x, x ∈ fs → PySem.W.findIn X.K (.ref C) x = some none) (h : xiB self X.N j fs body = true) (hne : fs ≠ []) : PSs X body (tXi0 C a j fs) := by
  cases fs with
  | nil => exact absurd rfl hne
  | cons f fs =>
    obtain ⟨p1, p2, q, p3, p4, r, rfl, hq, hr⟩ := xiB_cons h
    obtain ⟨v1, v2, v3⟩ := hv _ (List.mem_of_getElem? h0)
    obtain ⟨u1, u2, u3⟩ := hv _ (List.mem_of_getElem? hq)
    refine pss_imp (pss_cons (ps_ost (pe_var h0 v1 v2 v3) (pe_var hq u1 u2 u3)) (xi_more (a := a) T hv h0 fs (j + 1) r (fun x hx => hf x (List.mem_cons_of_mem _ hx)) hr)) ?_
    rintro D σ H ⟨ys, s0, s1, s2, s3, s5, s6⟩
    cases ys with
    | nil => cases s2
    | cons y0 ys =>
      simp only [List.length_cons] at s5 s2
      refine ⟨y0, by simpa using s1 0 y0 rfl, .ref a, s0, a, C, rfl, T, hf _ (List.mem_cons_self ..), .inl ⟨s3, fun dx hd hne => ?_⟩⟩
      refine ⟨dx, [(f, y0)], ys, hne, s0, fun i y e => by
        have := s1 (i + 1) y (by simpa using e)
        rw [show j + 1 + i = j + (i + 1) by omega]
        exact this, by omega, upd_same, by rw [upd_ne hne]; exact upd_same, by simp only [List.length_cons, List.length_nil]; omega, fun H' e1 e2 e3 => s6 dx H' hd hne e1 ?_ fun b b1 b2 => (e3 b b1 b2).trans ((upd_ne b1).trans (upd_ne b2))⟩
      rw [e2]
      simp
end
/-- the promise of such an __init__ -/
theorem xi_fn {P : Program} {w : World} {K : PySem.W.Frag} {mg : Str → Option Value} {base : Heap} {x qual : Str} {params : Arguments} {body : List Stmt} {scope : Scope} {dvs : List V} {kws : List (Str × V)} {f : Addr} {fd : FuncData} {self : Str} {ps : List Str} {C : Addr} {fs : List Str}
    (F : FunD K x qual params body scope dvs kws f fd) (S : FnScope (self :: ps) (self :: ps) scope) (T : OexC K C) (hl : ps.length = fs.length) (hm : fs.length ≤ 800) (hne : fs ≠ []) (hn : ∀ x, x ∈ self :: ps → Vis scope x ∧ (x == ("__debug__" : Str)) = false ∧ (x == ("__classdict__" : Str)) = false)
    (hf : ∀ x, x ∈ fs → PySem.W.findIn K (.ref C) x = some none) (h : xiB self (self :: ps) 1 fs body = true) (k : Nat) : FnOk P w K mg base (L2.CX P w) (k + 1) f fd (self :: ps) (spXi C fs) := by
  refine F.ok S (fun vs H Q E ⟨a, ys, e, l, _⟩ => by rw [e]; simp [l, hl]) fun cdv A outer s H vs Q E hr ⟨a, ys, e, l, ea, q⟩ => ⟨_, xi_all (a := a) (C := C) (self := self) (j := 1) (fs := fs) T (fun x hx => hn x hx) rfl hf h hne, ?_⟩
  subst e
  refine ⟨ys, rfl, fun i y e => ?_, l, ea, hm, fun dx H' e1 e2 e3 e4 e5 => q dx H' e1 e3 e4 e5⟩
  have li : i < ys.length := (List.getElem?_eq_some_iff.mp e).1
  unfold L2.start
  rw [List.getElem?_append_left (by simp; omega), List.getElem?_map]
  rw [show 1 + i = i + 1 by omega]
  simp [e]
/-! ### rules -/
section
variable {X : Cx} {G : Gx} {W : WX} {S : Sig} {fd : Nat → FuncData} {k : Nat} {run : Nat → List D → PM D} {sc : Scope} {N : List Str} {cm : Bool} {ev : Option Nat} {pos p p0 p1 : Pos} {x y z f : Str} {i : Nat} {l : List Expr} {Fa : FA}
/-- e.x, e the exception in hand -/
theorem e_eFld (O : XOk X G W S fd k run sc N cm ev) (hi : N[i]? = some y) (hv : visB sc y = true) (hn : okN y = true) : E3 X G W (.Attribute (.Name y p) x pos) (eFldS S i x) := by
  refine ⟨fun pins s σ H Q I ⟨ι, M, δ, μ, S', R, q⟩ => ?_⟩
  unfold eFldS at q
  split at q
  · rename_i c ds e1
    split at q
    · rename_i i' e2
      split at q
      · rename_i j e3
        split at q
        · rename_i d e4
          obtain ⟨v, h1, h2⟩ := R.2 i _ e1
          rcases h2 with h2 | ⟨c', fs', a, dx, h2, rfl, h3, h4⟩
          · cases h2
          · cases h2
            obtain ⟨X0, oe, pn, rfl, hz, hf⟩ := O.ex _ _ _ _ h3
            obtain ⟨a', us, rfl, m1, m2, m3⟩ := h4
            obtain ⟨T1, T2, T3, T4, T5, T6, T7, _⟩ := O.tb.xc c i' e2
            obtain ⟨w1, w2, _⟩ := List.findIdx?_eq_some_iff_getElem.mp e3
            have w3 : (S.xfN c)[j]? = some x := by rw [List.getElem?_eq_getElem w1, beq_iff_eq.mp w2]
            obtain ⟨u, k1, k2⟩ := m3 j x d (by rw [O.tb.xn]; exact w3) e4
            obtain ⟨o1, o2, o3⟩ := okN_of hn
            have hN : X0.N[i]? = some y := by have := O.nm; rw [← this] at hi; exact hi
            have P := pe_xf (X := X0) (pn := pn) (pos := pos) T2 (T6 x (List.mem_of_getElem? w3)) hz hf (pe_var (X := X0.suite a ((a, oe) :: pn)) (pos := p) hN (O.vis hv) o1 o2)
            exact P.run pins s σ H Q I ⟨.ref a, h1, rfl, rfl, a', us, u, rfl, S'.fz _ _ m1, k1, q.ok S' u k2⟩
        · exact q.elim
      · exact q.elim
    · exact q.elim
  · exact q.elim
/-- isinstance(e, C), e the exception in hand -/
theorem call_isX {X0 : Cx} {a C : Addr} {oe : Obj} {pn : List (Addr × Obj)} {dx : Option Addr} (E : ExcC X0.K C) (hz : Zc (.ref C) dx oe) (hf : ∃ vs, oe.data = .fields vs) :
    CallR (X0.suite a ((a, oe) :: pn)) (.builtin "isinstance") (fun xs H Q => ∃ (c : V) (cv : Value) (b : Bool), xs = [.ref a, c] ∧ (∀ u, RelV c u → u = cv) ∧ (∀ d, dx = some d → ∃ us, H d = some (.xd us)) ∧ PySem.W.kitOne X0.K (.ref C) cv = some b ∧ Q (.bl b) H) := by
  rintro pins s σ H xs us Q I r ⟨c, cv, b, rfl, hcv, hd, e, q⟩
  match us, r with
  | [u1, u2], .cons q1 (.cons q2 .nil) =>
    obtain rfl : u1 = Value.ref a := q1
    obtain rfl := hcv _ q2
    obtain ⟨hget, _⟩ := I.pin (a, oe) (List.mem_append_left _ List.mem_cons_self)
    obtain ⟨vs, hv⟩ := hf
    have hcl : (PySem.W.clsIn X0.K C).isSome = true := by
      obtain ⟨cd, hc, _⟩ := PySem.W.any_some E.hd
      rw [hc]
      rfl
    cases dx with
    | none =>
      have J : PySem.W.InstAt s.heap a oe C none := ⟨hget, hz.1, by unfold PySem.W.notCls; rw [hv] <;> rfl, by rw [hz.2]; trivial⟩
      exact PySem.W.kia_one (PySem.W.kitx_exc hcl E.hg E.hk E.hs E.ha E.hn E.ht E.hm) I.kIn J e (fun z => nomatch z) fun tk => ⟨.bl b, H, I.kept (t' := tk) fun _ _ z => z, rfl, q⟩
    | some d =>
      obtain ⟨us, hu⟩ := hd d rfl
      have hx : ObjOk X0.prog X0.w H s.heap d (.xd us) := I.hok d _ hu
      obtain ⟨mA, hns, _⟩ := hx
      obtain ⟨o, ho, _⟩ := lookIn_ns hns
      have J : PySem.W.InstAt s.heap a oe C (some o) := ⟨hget, hz.1, by unfold PySem.W.notCls; rw [hv] <;> rfl, by rw [hz.2]; exact ho⟩
      exact PySem.W.kia_one (PySem.W.kitx_exc hcl E.hg E.hk E.hs E.ha E.hn E.ht E.hm) I.kIn J e (fun z => nomatch z) fun tk => ⟨.bl b, H, I.kept (t' := tk) fun _ _ z => z, rfl, q⟩
/-- a class's name -/
def xnB (S : Sig) (t : XC) (z : Str) : Bool := match t with
  | .own c => (match S.cs[c]? with
    | some ci => decide (ci.nm = z)
    | none => false)
  | .ty n => decide (z ∈ S.free) && decide (bootBuiltins z = some (.type n))
theorem xn_pe (O : XOk X G W S fd k run sc N cm ev) {t : XC} (h : xnB S t z = true) (hg : glB sc z = true) (hn : okN z = true) : ∃ v, PE X (.Name z p1) (tC v) ∧ ∀ u, RelV v u → u = xv G t := by
  obtain ⟨o1, o2, o3⟩ := okN_of hn
  cases t with
  | own c =>
    unfold xnB at h
    dsimp only at h
    split at h
    · rename_i ci e
      have e2 := of_decide_eq_true h
      subst e2
      exact ⟨.ref (G.cA c), pe_glob (O.gl hg) (O.tb.glc c ci e) (rr _) o1, fun u r => r⟩
    · cases h
  | ty n =>
    obtain ⟨h1, h2⟩ := Bool.and_eq_true_iff.mp (show (decide (z ∈ S.free) && decide (bootBuiltins z = some (.type n))) = true from h)
    exact ⟨.ty n, pe_bltn (u := .type n) (O.gl hg) (O.tb.fr _ (of_decide_eq_true h1)) (of_decide_eq_true h2) rfl o3 o1, fun u r => r⟩
theorem xn_names (O : XOk X G W S fd k run sc N cm ev) {t : XC} (h : xnB S t z = true) (hg : glB sc z = true) (hn : okN z = true) : Names X z (xv G t) := by
  obtain ⟨o1, o2, o3⟩ := okN_of hn
  cases t with
  | own c =>
    unfold xnB at h
    dsimp only at h
    split at h
    · rename_i ci e
      have e2 := of_decide_eq_true h
      subst e2
      exact ⟨O.gl hg, o1, .inl (O.tb.glc c ci e)⟩
    · cases h
  | ty n =>
    obtain ⟨h1, h2⟩ := Bool.and_eq_true_iff.mp (show (decide (z ∈ S.free) && decide (bootBuiltins z = some (.type n))) = true from h)
    exact ⟨O.gl hg, o1, .inr ⟨O.tb.fr _ (of_decide_eq_true h1), of_decide_eq_true h2, o3⟩⟩
theorem e_eIs (O : XOk X G W S fd k run sc N cm ev) {t : XC} (hi : N[i]? = some y) (hv : visB sc y = true) (hn : okN y = true) (hf : ("isinstance" : Str) ∈ S.free) (hgf : glB sc "isinstance" = true) (h : xnB S t z = true) (hg : glB sc z = true) (hz : okN z = true) :
    E3 X G W (.Call (.Name "isinstance" p0) [.Name y p, .Name z p1] [] pos) (eIsS S i t) := by
  refine ⟨fun pins s σ H Q I ⟨ι, M, δ, μ, S', R, q⟩ => ?_⟩
  unfold eIsS at q
  split at q
  · rename_i c ds e1
    split at q
    · rename_i i' e2
      split at q
      · rename_i b e3
        obtain ⟨v, h1, h2⟩ := R.2 i _ e1
        rcases h2 with h2 | ⟨c', fs', a, dx, h2, rfl, h3, h4⟩
        · cases h2
        · cases h2
          obtain ⟨u, pu, ru⟩ := xn_pe (p1 := p1) O h hg hz
          obtain ⟨X0, oe, pn, rfl, hz0, hf0⟩ := O.ex _ _ _ _ h3
          obtain ⟨T1, T2, T3, _⟩ := O.tb.xc c i' e2
          obtain ⟨o1, o2, o3⟩ := okN_of hn
          have hN : X0.N[i]? = some y := by have := O.nm; rw [← this] at hi; exact hi
          have P := pe_callB (X := X0.suite a ((a, oe) :: pn)) (pos := pos) (p := p0) (call_isX T3 hz0 hf0) (O.gl hgf) (O.tb.fr _ hf) PyProof.Rows.Boot.«isinstance»
            (pa_cons (pe_var (X := X0.suite a ((a, oe) :: pn)) (pos := p) hN (O.vis hv) o1 o2) (pa_cons pu pa_nil))
          refine P.run pins s σ H Q I ?_
          refine ⟨.ref a, h1, u, xv G t, b, rfl, ru, fun d e => ?_, (O.tb.xs _ _ _ e3).2, q.ok S' (.bl b) .bl⟩
          subst e
          cases ds with
          | none => cases h4
          | some ds =>
            obtain ⟨a', us, e5, m1, _⟩ := h4
            cases e5
            exact ⟨us, S'.fz _ _ m1⟩
      · exact q.elim
    · exact q.elim
  · exact q.elim
/-! ### raise -/
theorem lookup_mem' : ∀ {l : List (Str × V)} {x : Str} {v : V}, (l.map (·.1)).Nodup → (x, v) ∈ l → l.lookup x = some v
  | (y, u) :: r, x, v, nd, h => by
    rw [List.map_cons, List.nodup_cons] at nd
    rw [lookup_put]
    rcases List.mem_cons.mp h with e | e
    · cases e; rw [if_pos rfl]
    · have ne : x ≠ y := fun z => nd.1 (by rw [← z]; exact List.mem_map_of_mem (f := (·.1)) e)
      rw [if_neg ne]
      exact lookup_mem' nd.2 e
theorem lookup_rev {fs : List Str} {vs : List V} {j : Nat} {x : Str} {v : V} (hl : fs.length ≤ vs.length) (nd : fs.Nodup) (h1 : fs[j]? = some x) (h2 : vs[j]? = some v) : ((fs.zip vs).reverse).lookup x = some v := by
  refine lookup_mem' ?_ ?_
  · rw [List.map_reverse]
    refine List.pairwise_reverse.mpr (List.Pairwise.imp (fun h => Ne.symm h) ?_)
    rw [List.map_fst_zip hl]
    exact nd
  · rw [List.mem_reverse]
    have : (fs.zip vs)[j]? = some (x, v) := by rw [List.getElem?_zip_eq_some]; exact ⟨h1, h2⟩
    exact List.mem_of_getElem? this
theorem s_raise (O : XOk X G W S fd k run sc N cm ev) (hcm : cm = true) {c j : Nat} {ci : Cd} (hxi : S.xin c = some j) (hc : S.cs[c]? = some ci) (hx : ci.nm = x) (hg : glB sc x = true) (hn : okN x = true) {e : Expr} {es : List Expr} (hp : plainL (e :: es) = true) (ha : A3 X G W (e :: es) Fa) :
    S3 X G W (.Raise (some (.Call (.Name x p) (e :: es) [] p0)) none pos) (fun δ μ => (Fa δ μ).toS δ fun ds μ => raiseS S c δ ds μ) := by
  obtain ⟨T1, T2, T3, T4, T5, T6, T7, T8, ps, Bn, F1⟩ := O.tb.xc c j hxi
  obtain ⟨o1, o2, o3⟩ := okN_of hn
  have hp2 : (plainE e && plainL es) = true := hp
  rw [Bool.and_eq_true] at hp2
  have hm : X.mg x = some (.ref (G.cA c)) := by rw [← hx]; exact O.tb.glc c ci hc
  refine ps_imp (ps_raise (O.calm hcm) O.tk (pmk_oex T1 T4 T5 F1 (O.room hcm) Bn .nil (passes_call O.tk fun _ _ _ _ h => h.elim) (O.gl hg) hm ha o1 (star_plain hp2.1) (star_any hp2.2))) ?_
  rintro D σ H ⟨ι, M, δ, μ, So, R, f⟩
  refine ⟨ι, M, δ, μ, So, R, (FinS.ofE R f).imp fun ι1 M1 H1 μ1 ds q1 x1 S1 q vs rvs => ?_⟩
  unfold raiseS at q
  rw [hxi] at q
  dsimp only at q
  split at q
  · rename_i hl
    have lv := rvs.length
    refine ⟨by omega, fun a na => ⟨a, vs, by simp, by omega, upd_same, fun dx H' d1 d2 d3 d4 => ⟨rfl, dx, _, d2, d3, ?_, ?_⟩⟩⟩
    · have hne : dx ≠ a := fun z => by rw [z, upd_same] at d1; cases d1
      rw [upd_ne hne] at d1
      exact d1
    · have hne : dx ≠ a := fun z => by rw [z, upd_same] at d1; cases d1
      rw [upd_ne hne] at d1
      have eH : upd (del H' a) dx (.xd ((S.xfN c).zip vs).reverse) = upd H1 dx (.xd ((S.xfN c).zip vs).reverse) := by
        funext b
        by_cases b1 : b = dx
        · subst b1; rw [upd_same, upd_same]
        · rw [upd_ne b1, upd_ne b1]
          by_cases b2 : b = a
          · subst b2; rw [del_same, na]
          · rw [del_ne b2, d4 b b2 b1, upd_ne b2]
      rw [eH]
      have xe : Ex M1 (upd M1 dx (.xd ((S.xfN c).zip vs).reverse)) := Ext.upd (S1.free d1)
      refine q ι1 _ _ σ (some dx) ⟨Pre.refl _, xe, S1.frozen d1⟩ ((R.mono q1 x1).mono (Pre.refl _) xe) ⟨dx, _, rfl, upd_same, by rw [O.tb.xn]; exact hl, fun j y d e1 e2 => ?_⟩
      rw [O.tb.xn] at e1
      obtain ⟨v, v1, v2⟩ := rvs.getD e2
      exact ⟨v, lookup_rev (by omega) T8 e1 v1, v2.mono (Pre.refl _) xe⟩
  · exact q.elim
/-! ### try -/
def ends0 (i : Nat) (D : Ends) : Ends := { nx := fun σ' H' => D.nx (σ'.set i none) H', rt := D.rt, bk := fun σ' H' => D.bk (σ'.set i none) H', ct := fun σ' H' => D.ct (σ'.set i none) H' }
abbrev WNo : WX := fun _ _ _ _ => False
theorem takes_no : Takes X WNo := by
  intro u s' q
  obtain ⟨a, B, sI, pins, σ, H, cls, d, q⟩ := q
  exact False.elim q.2.2.2.2.2.2.2.2
theorem renv_gone {K : PySem.W.Frag} {ι : List Addr} {M : Hp} {σ : L2.St} {δ : Env3} {i : Nat} {a : Addr} {cls : Value} {dx : Option Addr} (h0 : G.eA = none) (R : REnv K (G.we (some (i, a, cls, dx))) ι M σ δ) : REnv K G ι M (σ.set i none) (δ.set i none) := by
  refine ⟨by simp [R.1], fun j d q => ?_⟩
  by_cases e : i = j
  · subst e
    by_cases l : i < δ.length
    · rw [List.getElem?_set_self l] at q
      cases q
    · rw [List.getElem?_eq_none (by simpa using Nat.le_of_not_lt l)] at q
      cases q
  · rw [List.getElem?_set_ne e] at q ⊢
    obtain ⟨v, h1, h2⟩ := R.2 j d q
    refine ⟨v, h1, ?_⟩
    rcases h2 with h2 | ⟨c, fs, a', dx', _, _, h3, _⟩
    · rw [rep_we] at h2
      exact .inl h2
    · have z : some (i, a, cls, dx) = some (j, a', xv (G.we (some (i, a, cls, dx))) c, dx') := h3
      exact absurd (congrArg Prod.fst (Option.some.inj z)) e
theorem finS_gone {K : PySem.W.Frag} {ι : List Addr} {M : Hp} {r : RS} {D : Ends} {a : Addr} {cls : Value} {dx : Option Addr} (h0 : G.eA = none) (h : FinS K G W ι M (r.gone i) D) : FinS K (G.we (some (i, a, cls, dx))) WNo ι M r (ends0 i D) := by
  cases r with
  | nx δ μ => intro i2 m2 h2 s2 n re; rw [nx_we] at n; exact h i2 m2 h2 _ n (renv_gone h0 re)
  | ret d μ => intro i2 m2 h2 v n rv; rw [nx_we] at n; rw [rep_we] at rv; exact h i2 m2 h2 v n rv
  | brk δ μ => intro i2 m2 h2 s2 n re; rw [nx_we] at n; exact h i2 m2 h2 _ n (renv_gone h0 re)
  | ct δ μ => intro i2 m2 h2 s2 n re; rw [nx_we] at n; exact h i2 m2 h2 _ n (renv_gone h0 re)
  | exc c fs δ μ => exact h.elim
  | stuck => exact h.elim
theorem finS_noX {K : PySem.W.Frag} {ι : List Addr} {M : Hp} {r : RS} {D : Ends} (h : FinS K G W ι M r.noX D) : FinS K G WNo ι M r D := by
  cases r with
  | nx δ μ => exact h
  | ret d μ => exact h
  | brk δ μ => exact h
  | ct δ μ => exact h
  | exc c fs δ μ => exact h.elim
  | stuck => exact h.elim
theorem renv_in {K : PySem.W.Frag} {ι : List Addr} {M : Hp} {σ : L2.St} {δ : Env3} {i : Nat} {a : Addr} {t : XC} {fs : Option (List D)} {dx : Option Addr} (h0 : G.eA = none) (R : REnv K G ι M σ δ) (xd : XdOk K G ι M t fs dx) :
    REnv K (G.we (some (i, a, xv G t, dx))) ι M (σ.set i (some (.ref a))) (δ.set i (some (.err t fs))) := by
  have R' : REnv K (G.we (some (i, a, xv G t, dx))) ι M σ δ := ⟨R.1, fun j d q => by
    obtain ⟨v, h1, h2⟩ := R.2 j d q
    refine ⟨v, h1, ?_⟩
    rcases h2 with h2 | ⟨c, fs, a', dx', _, _, h3, _⟩
    · exact .inl (by rw [rep_we]; exact h2)
    · rw [h0] at h3; cases h3⟩
  exact R'.setE (.inr ⟨t, fs, a, dx, rfl, rfl, by rw [xv_we]; rfl, by rw [xdOk_we]; exact xd⟩)
theorem s_tryA (O : XOk X G W S fd k run sc N cm ev) (hcm : cm = true) (hst : X.stack = X.env :: X.outer ∧ X.env.frame = some X.env.locals) {c : XC} {n : Str} {body suite : List Stmt} {b₀ : Stmt} {np pos' : Pos} {B Hd : FS} (hi : N[i]? = some n) (hl : decide (sc.names.lookup n = some .local) = true)
    (hc : Names X x (xv G c))
    (hb : ∀ (W' : WX) (pn : List (Addr × Obj)) (xe : Value → Shared → Prop), Takes (X.tr pn xe) W' → PassesOwn (model X.prog X.w) X.A X.env xe → B3 (X.tr pn xe) G W' body B)
    (hs : ∀ (a : Addr) (oe : Obj) (cls : Value) (d : Option Addr) (pn : List (Addr × Obj)), Zc cls d oe → (∃ vs, oe.data = .fields vs) → B3 (X.suite a ((a, oe) :: pn)) (G.we (some (i, a, cls, d))) WNo (b₀ :: suite) Hd) :
    S3 X G W (.Try body [.ExceptHandler (some (.Name x np)) (some n) (b₀ :: suite) pos'] [] [] pos) (fun δ μ => catchA S c i Hd (B δ μ)) := by
  have hk : X.env.kindOf n = some .local := by
    show X.env.scope.names.lookup n = _
    rw [O.hsc]
    exact of_decide_eq_true hl
  refine ps_imp (ps_try_as hst.1 hst.2 O.nd (by rw [O.nm]; exact hi) hk hc O.tk (tb := fun W' => tS X.K G W' B) (ts := fun a cls d => tS X.K (G.we (some (i, a, cls, d))) WNo Hd) (fun W' pn xe t1 t2 => hb W' pn xe t1 t2) (fun a oe cls d pn z1 z2 => hs a oe cls d pn z1 z2)) ?_
  rintro D σ H ⟨ι, M, δ, μ, So, R, f⟩
  refine ⟨ι, M, δ, μ, So, R, ?_⟩
  have h0 := O.ec hcm
  have f2 : FinS X.K G W ι M (catchA S c i Hd (B δ μ)) D := f
  show FinS X.K G _ ι M (B δ μ) D
  cases hr : B δ μ with
  | nx δ1 μ1 => rw [hr] at f2; exact f2
  | ret d μ1 => rw [hr] at f2; exact f2
  | brk δ1 μ1 => rw [hr] at f2; exact f2
  | ct δ1 μ1 => rw [hr] at f2; exact f2
  | stuck => rw [hr] at f2; exact f2
  | exc t fs δ1 μ1 =>
    rw [hr] at f2
    unfold catchA at f2
    dsimp only at f2
    split at f2
    · rename_i e
      intro i2 m2 h2 s2 dx n1 re xd
      refine ⟨true, (O.tb.xs _ _ _ e).1, fun _ a ha => ⟨i2, m2, _, μ1, by rw [sto_we]; exact n1.sto, renv_in h0 re xd, finS_gone h0 (FinS.mono n1.pre n1.ext f2)⟩, fun z => by cases z⟩
    · rename_i e
      intro i2 m2 h2 s2 dx n1 re xd
      exact ⟨false, (O.tb.xs _ _ _ e).1, (fun z => by cases z), fun _ => f2 i2 m2 h2 s2 dx n1 re xd⟩
    · exact f2.elim
theorem s_tryO (O : XOk X G W S fd k run sc N cm ev) (hcm : cm = true) (hst : X.stack = X.env :: X.outer ∧ X.env.frame = some X.env.locals) {c : XC} {body suite : List Stmt} {b₀ : Stmt} {np pos' : Pos} {B Hd : FS}
    (hc : Names X x (xv G c))
    (hb : ∀ (W' : WX) (pn : List (Addr × Obj)) (xe : Value → Shared → Prop), Takes (X.tr pn xe) W' → PassesOwn (model X.prog X.w) X.A X.env xe → B3 (X.tr pn xe) G W' body B)
    (hs : ∀ (a : Addr) (oe : Obj) (cls : Value) (d : Option Addr) (pn : List (Addr × Obj)), Zc cls d oe → (∃ vs, oe.data = .fields vs) → B3 (X.suite a ((a, oe) :: pn)) G WNo (b₀ :: suite) Hd) :
    S3 X G W (.Try body [.ExceptHandler (some (.Name x np)) none (b₀ :: suite) pos'] [] [] pos) (fun δ μ => catchO S c Hd (B δ μ)) := by
  refine ps_imp (ps_try_only hst.1 hst.2 hc O.tk (tb := fun W' => tS X.K G W' B) (ts := fun _ _ _ => tS X.K G WNo Hd) (fun W' pn xe t1 t2 => hb W' pn xe t1 t2) (fun a oe cls d pn z1 z2 => hs a oe cls d pn z1 z2)) ?_
  rintro D σ H ⟨ι, M, δ, μ, So, R, f⟩
  refine ⟨ι, M, δ, μ, So, R, ?_⟩
  have f2 : FinS X.K G W ι M (catchO S c Hd (B δ μ)) D := f
  show FinS X.K G _ ι M (B δ μ) D
  cases hr : B δ μ with
  | nx δ1 μ1 => rw [hr] at f2; exact f2
  | ret d μ1 => rw [hr] at f2; exact f2
  | brk δ1 μ1 => rw [hr] at f2; exact f2
  | ct δ1 μ1 => rw [hr] at f2; exact f2
  | stuck => rw [hr] at f2; exact f2
  | exc t fs δ1 μ1 =>
    rw [hr] at f2
    unfold catchO at f2
    dsimp only at f2
    split at f2
    · rename_i e
      intro i2 m2 h2 s2 dx n1 re xd
      exact ⟨true, (O.tb.xs _ _ _ e).1, fun _ a ha => ⟨i2, m2, _, μ1, n1.sto, re, finS_noX (FinS.mono n1.pre n1.ext f2)⟩, fun z => by cases z⟩
    · rename_i e
      intro i2 m2 h2 s2 dx n1 re xd
      exact ⟨false, (O.tb.xs _ _ _ e).1, (fun z => by cases z), fun _ => f2 i2 m2 h2 s2 dx n1 re xd⟩
    · exact f2.elim
end
end L3

set_option maxRecDepth 100000
set_option maxHeartbeats 2000000
/-! L4y: list comprehensions. -/
namespace L3
open PySem PySem.Spec PyProof.Rows L2
/-! ### targets by name -/
def gsOf : List Nat → TGs
  | [] => gNil
  | i :: is => gCons (gName i) (gsOf is)
def gOf (K : PySem.W.Frag) : Tg → TG
  | .one i => gName i
  | .tup is => gTup K is.length (gsOf is)
def Tg.slots : Tg → List Nat
  | .one i => [i]
  | .tup is => is
theorem wipe_set {σ : L2.St} {i : Nat} {v : Option V} : ∀ {vs : List Nat}, i ∈ vs → L2.wipe (σ.set i v) vs = L2.wipe σ vs
  | [], h => by cases h
  | j :: vs, h => by
    show (L2.wipe (σ.set i v) vs).set j none = (L2.wipe σ vs).set j none
    by_cases e : i ∈ vs
    · rw [wipe_set e]
    · have e2 : i = j := by rcases List.mem_cons.mp h with h | h; exact h; exact absurd h e
      subst e2
      have key : ∀ {ws : List Nat}, i ∉ ws → L2.wipe (σ.set i v) ws = (L2.wipe σ ws).set i v := by
        intro ws
        induction ws with
        | nil => intro _; rfl
        | cons w ws ih =>
          intro hn
          rw [List.mem_cons, not_or] at hn
          show (L2.wipe (σ.set i v) ws).set w none = ((L2.wipe σ ws).set w none).set i v
          rw [ih hn.2, List.set_comm _ _ hn.1]
      rw [key e, List.set_set]
theorem wipe_idem {σ : L2.St} : ∀ vs : List Nat, L2.wipe (L2.wipe σ vs) vs = L2.wipe σ vs
  | [] => rfl
  | v :: vs => by
    show L2.wipe ((L2.wipe σ vs).set v none) (v :: vs) = _
    rw [wipe_set (List.mem_cons_self ..)]
    show (L2.wipe (L2.wipe σ vs) vs).set v none = _
    rw [wipe_idem vs]
    rfl
theorem renv_wipe {K : PySem.W.Frag} {G : Gx} {ι : List Addr} {M : Hp} {σ : L2.St} {δ : Env3} (R : REnv K G ι M σ δ) : ∀ vs : List Nat, REnv K G ι M (L2.wipe σ vs) (wipeD δ vs)
  | [] => R
  | v :: vs => (renv_wipe R vs).unset
section
variable {K : PySem.W.Frag} {G : Gx} {ι : List Addr} {M : Hp} {vs : List Nat}
theorem gs_run : ∀ (is : List Nat) (xs : List V) (ds : List D) (σ σ0 : L2.St) (δ δ' : Env3) (H : Hp) (Q : L2.St → Hp → Prop), Reps K G ι M xs ds → REnv K G ι M σ δ → setAll is ds δ = some δ' → L2.wipe σ vs = σ0 → (∀ i ∈ is, i ∈ vs) →
    (∀ σ', REnv K G ι M σ' δ' → L2.wipe σ' vs = σ0 → Q σ' H) → gsOf is xs σ H Q
  | [], xs, ds, σ, σ0, δ, δ', H, Q, r, R, e, w, hi, q => by
    cases r with
    | nil =>
      cases (show some δ = some δ' from e)
      exact ⟨rfl, q σ R w⟩
    | cons _ _ => cases e
  | i :: is, xs, ds, σ, σ0, δ, δ', H, Q, r, R, e, w, hi, q => by
    cases r with
    | nil => cases e
    | cons r1 rr =>
      exact ⟨_, _, rfl, gs_run is _ _ _ σ0 _ _ H Q rr (R.set r1) e ((wipe_set (hi i (List.mem_cons_self ..))).trans w) (fun j hj => hi j (List.mem_cons_of_mem _ hj)) q⟩
theorem g_run {t : Tg} {μ : Mu} {v : V} {d : D} {σ σ0 : L2.St} {δ δ' : Env3} {H : Hp} {Q : L2.St → Hp → Prop} (S' : Sto K G ι M H μ) (r : Rep K G ι M v d) (R : REnv K G ι M σ δ) (e : t.put d δ = some δ') (w : L2.wipe σ vs = σ0) (hi : ∀ i ∈ t.slots, i ∈ vs)
    (q : ∀ σ', REnv K G ι M σ' δ' → L2.wipe σ' vs = σ0 → Q σ' H) : gOf K t v σ H Q := by
  cases t with
  | one i =>
    cases (show some (δ.set i (some d)) = some δ' from e)
    exact q _ (R.set r) ((wipe_set (hi i (List.mem_cons_self ..))).trans w)
  | tup is =>
    cases d with
    | tup ds =>
      obtain ⟨a, xs, rfl, ht, rs⟩ := rep_tup r
      have e2 : setAll is ds δ = some δ' := e
      exact ⟨a, xs, rfl, ht.ext S'.fz, by rw [rs.length]; exact setAll_len _ _ _ _ e2, gs_run is xs ds σ σ0 δ δ' H Q rs R e2 w hi q⟩
    | _ => cases e
end
/-! ### the comprehension -/
theorem Fin3.noX {K : PySem.W.Frag} {G : Gx} {W : WX} {σ σ' : L2.St} {ι : List Addr} {M : Hp} {α : Type} {r : Res α} {P : List Addr → Hp → Hp → Mu → α → Prop} (h : Fin3 K G W σ ι M r.noX P) : Fin3 K G WNo σ' ι M r P := by
  cases r with
  | ok a m => exact h
  | exc c fs m => exact h.elim
  | stuck => exact h.elim
section
variable {X : Cx} {G : Gx} {W : WX} {tg iter elt : Expr} {ifs : List Expr} {scope : Scope} {own : List (Str × Nat)} {t : Tg} {Fi : FI} {Ft : FT} {Fe : FE} {pos : Pos}
theorem compG_in {K : PySem.W.Frag} {σ : L2.St} {ι : List Addr} {M : Hp} {gs : List (Nat × List D)} {p : Nat} {δ : Env3} {d : D} {ds : List D} {μ : Mu} {P : List Addr → Hp → Hp → Mu → D → Prop} (h : Fin3 K G W σ ι M (compG gs t Ft Fe p δ (d :: ds) μ) P) :
    gOk gs μ ∧ Fin3 K G W σ ι M ((compT t Ft Fe p δ d μ).bind fun _ μ => compG gs t Ft Fe p δ ds μ) P := by
  unfold compG at h
  split at h
  · rename_i g; exact ⟨g, h⟩
  · exact h.elim
theorem compG_end {K : PySem.W.Frag} {σ : L2.St} {ι : List Addr} {M : Hp} {gs : List (Nat × List D)} {p : Nat} {δ : Env3} {μ : Mu} {P : List Addr → Hp → Hp → Mu → D → Prop} (h : Fin3 K G W σ ι M (compG gs t Ft Fe p δ [] μ) P) : gOk gs μ ∧ Fin3 K G W σ ι M (.ok (.cell p) μ) P := by
  unfold compG at h
  split at h
  · rename_i g; exact ⟨g, h⟩
  · exact h.elim
theorem comp_read (hsl : ∀ i ∈ t.slots, i ∈ own.map (·.2)) : ∀ σ H Q, tE X.K G W (dComp (own.map (·.2)) t Fi Ft Fe) σ H Q → tLc (tI X.K G W Fi) (gOf X.K t) (tT X.K G WNo Ft) (tE X.K G WNo Fe) (own.map (·.2)) σ H Q := by
  rintro σ H Q ⟨ι, M, δ, μ, So, R, f⟩
  refine ⟨ι, M, δ, μ, So, R, (Fin3.bind f).imp fun ι1 M1 H1 μ1 pp p1 x1 S1 q J hJ D hD => ?_⟩
  obtain ⟨ds, gs⟩ := pp
  have Rw := renv_wipe (R.mono p1 x1) (own.map (·.2))
  have S2 : Sto X.K G (ι1 ++ [D]) M1 (upd H1 D (.lst [])) (μ1 ++ [.lst []]) := S1.cell hD ⟨[], upd_same, .nil⟩
  have hp : (ι1 ++ [D])[μ1.length]? = some D := by rw [← S1.len]; simp
  refine ⟨fun i m H => m = ds.length - i ∧ i ≤ ds.length ∧ ∃ ι2 M2 μ2, Pre ι1 ι2 ∧ Ex M1 M2 ∧ Sto X.K G ι2 M2 H μ2 ∧ ι2[μ1.length]? = some D ∧ Fin3 X.K G W σ ι2 M2 (compG gs t Ft Fe μ1.length (wipeD δ (own.map (·.2))) (ds.drop i) μ2) (fun ι' M' H' _ d => ∀ v, Rep X.K G ι' M' v d → Q v H'),
    ⟨_, rfl, Nat.zero_le _, ι1 ++ [D], M1, _, Pre.app _ _, Ext.rfl', S2, hp, by rw [List.drop_zero]; exact Fin3.mono (Pre.app _ _) Ext.rfl' q⟩, ?_⟩
  rintro i m H ⟨rfl, le, ι2, M2, μ2, p2, x2, S3, hp2, f2⟩
  by_cases l : i < ds.length
  · right
    have e : ds[i]? = some ds[i] := List.getElem?_eq_getElem l
    rw [List.drop_eq_getElem_cons l] at f2
    obtain ⟨gk, f2⟩ := compG_in f2
    obtain ⟨go, yl⟩ := (hJ ι2 M2 H μ2 p2 x2 S3 gk i).2 _ e
    refine ⟨go, fun H' => ∃ ι3 M3 μ3, Pre ι1 ι3 ∧ Ex M1 M3 ∧ Sto X.K G ι3 M3 H' μ3 ∧ ι3[μ1.length]? = some D ∧ Fin3 X.K G W σ ι3 M3 (compG gs t Ft Fe μ1.length (wipeD δ (own.map (·.2))) (ds.drop (i + 1)) μ3) (fun ι' M' H' _ d => ∀ v, Rep X.K G ι' M' v d → Q v H'), fun H' w => ⟨ds.length - (i + 1), by omega, rfl, by omega, w⟩, fun x H' y => ?_⟩
    obtain ⟨M3, x3, S3', r3⟩ := yl x H' y
    have f3 := Fin3.bind (show Fin3 X.K G W σ ι2 M2 ((compT t Ft Fe μ1.length (wipeD δ (own.map (·.2))) ds[i] μ2).bind fun _ μ => compG gs t Ft Fe μ1.length (wipeD δ (own.map (·.2))) (ds.drop (i + 1)) μ) _ from f2)
    unfold compT at f3
    cases e4 : t.put ds[i] (wipeD δ (own.map (·.2))) with
    | none => rw [e4] at f3; exact f3.elim
    | some δ' =>
      rw [e4] at f3
      refine g_run S3' r3 ((Rw.mono p2 x2).mono (Pre.refl _) x3) e4 (wipe_idem _) hsl fun σ2 R2 w2 => ⟨w2, ι2, M3, δ', μ2, S3', R2, ?_⟩
      have f4 := Fin3.bind (Fin3.noX (σ' := σ2) f3)
      refine (Fin3.mono (Pre.refl _) x3 f4).imp fun ι4 M4 H4 μ4 b p4 x4 S4 f5 => ?_
      cases b with
      | false => exact f5.at (Pre.refl _) Ext.rfl' S4 |> fun h => ⟨ι4, M4, μ4, p2.trans p4, (x2.trans x3).trans x4, S4, p4 _ _ hp2, h⟩
      | true =>
        refine ⟨ι4, M4, δ', μ4, S4, R2.mono p4 x4, (Fin3.bind f5).imp fun ι5 M5 H5 μ5 v p5 x5 S5 f6 y ry => ?_⟩
        have hp5 := p5 _ _ (p4 _ _ hp2)
        obtain ⟨c, hc, _, k⟩ := S5.at hp5
        unfold growS at f6
        rw [hc] at f6
        cases c with
        | lst acc =>
          obtain ⟨xs, h1, rx⟩ := k
          dsimp only at f6
          split at f6
          · rename_i hlen
            refine ⟨xs, h1, by rw [rx.length, sizeLine_eq]; omega, ?_⟩
            have S6 := S5.write (o := .lst (xs ++ [y])) (c := .lst (acc ++ [v])) hp5 ⟨xs ++ [y], upd_same, rx.append (.cons ry .nil)⟩
            exact ⟨ι5, M5, _, (p2.trans p4).trans p5, ((x2.trans x3).trans x4).trans x5, S6, hp5, f6.ok S6⟩
          · exact f6.elim
        | _ => exact f6.elim
  · left
    rw [List.drop_of_length_le (by omega)] at f2
    obtain ⟨gk, f2⟩ := compG_end f2
    exact ⟨(hJ ι2 M2 H μ2 p2 x2 S3 gk i).1 (show i = ds.length by omega), f2.ok S3 _ (.cell hp2)⟩
end
section
variable {X : Cx} {G : Gx} {W : WX} {S : Sig} {fd : Nat → FuncData} {k : Nat} {run : Nat → List D → PM D} {sc : Scope} {N : List Str} {cm : Bool} {ev : Option Nat}
/-- a comprehension's block is a place, too -/
theorem xok_blk (O : XOk X G W S fd k run sc N cm ev) (hcm : cm = true) (scope : Scope) (s : Shared) (H : Hp) (C : Addr) (cl : List (Str × Addr)) (fp : List Addr) : XOk (X.blk s H scope (compEnvC scope cl C X.env) fp) G WNo S fd k run (relS scope sc) N cm ev where
  tb := O.tb
  hsc := by
    show relS scope X.env.scope = _
    rw [O.hsc]
  nm := O.nm
  nd := O.nd
  room := O.room
  tk := takes_no
  calm := O.calm
  po := PassesOwn.never
  ec := O.ec
  eq := O.eq
  ex := fun i a cls dx e => by rw [O.ec hcm] at e; cases e
theorem pts_yes {X : Cx} {K : PySem.W.Frag} : PTs X [] (tT K G WNo (fun _ μ => .ok true μ)) := ⟨fun pins s σ H Q I ⟨ι, M, δ, μ, So, R, f⟩ => pts_nil.run pins s σ H Q I (f.ok So)⟩
theorem e_comp {tg iter elt : Expr} {ifs : List Expr} {scope : Scope} {own : List (Str × Nat)} {t : Tg} {Fi : FI} {Ft : FT} {Fe : FE} {pos : Pos} (O : XOk X G W S fd k run sc N cm ev) (hcm : cm = true) (hb : blkC N sc scope own = true) (hsl : ∀ i ∈ t.slots, i ∈ own.map (·.2)) (hi : I3 X G W tg iter Fi)
    (hg : ∀ (s : Shared) (H : Hp) (C : Addr) (cl : List (Str × Addr)) (fp : List Addr), PG (X.blk s H scope (compEnvC scope cl C X.env) fp) tg (gOf X.K t))
    (ht : ∀ (s : Shared) (H : Hp) (C : Addr) (cl : List (Str × Addr)) (fp : List Addr), PTs (X.blk s H scope (compEnvC scope cl C X.env) fp) ifs (tT X.K G WNo Ft))
    (he : ∀ (s : Shared) (H : Hp) (C : Addr) (cl : List (Str × Addr)) (fp : List Addr), E3 (X.blk s H scope (compEnvC scope cl C X.env) fp) G WNo elt Fe) (hs : ∀ x, foldedSetIterable iter X.env x = pure x) :
    E3 X G W (.ListComp elt [⟨tg, iter, ifs, 0⟩] scope pos) (dComp (own.map (·.2)) t Fi Ft Fe) := by
  have ok : BlkOk X.N X.env.scope scope own := by
    rw [O.nm, O.hsc]
    exact blkOk_by hb
  exact pe_imp (pe_lc (O.calm hcm) O.nd hi ok hg ht he hs) (comp_read hsl)
theorem fz_read {F : FE} : ∀ σ H Q, tE X.K G W (fun δ μ => (F δ μ).bind fun d m => closeFz μ d m) σ H Q → tE X.K G W F σ H Q := fun σ H Q ⟨ι, M, δ, μ, S', R, f⟩ => ⟨ι, M, δ, μ, S', R, Fin3.close S' f⟩
theorem s_comp {tg iter elt : Expr} {ifs : List Expr} {scope : Scope} {own : List (Str × Nat)} {t : Tg} {Fi : FI} {Ft : FT} {Fe : FE} {pos spos py : Pos} {j : Nat} {y : Str} (O : XOk X G W S fd k run sc N cm ev) (hcm : cm = true) (hb : blkC N sc scope own = true) (hsl : ∀ i ∈ t.slots, i ∈ own.map (·.2)) (hi : I3 X G W tg iter Fi)
    (hy : N[j]? = some y) (hyl : decide (sc.names.lookup y = some .local) = true) (hk : sc.kind = .function) (hl : (py.line == pos.line) = true) (ha : (scope.names.any fun (n, k) => n == y && (k == .local || k == .cell)) = false)
    (hg : ∀ (s : Shared) (H : Hp) (C : Addr) (cl : List (Str × Addr)) (fp : List Addr), PG (X.blk s H scope (compEnvC scope cl C X.env) fp) tg (gOf X.K t))
    (ht : ∀ (s : Shared) (H : Hp) (C : Addr) (cl : List (Str × Addr)) (fp : List Addr), PTs (X.blk s H scope (compEnvC scope cl C X.env) fp) ifs (tT X.K G WNo Ft))
    (he : ∀ (s : Shared) (H : Hp) (C : Addr) (cl : List (Str × Addr)) (fp : List Addr), E3 (X.blk s H scope (compEnvC scope cl C X.env) fp) G WNo elt Fe) (hs : ∀ x, foldedSetIterable iter X.env x = pure x)
    {Fx : FE} (hx : ∀ σ H Q, tE X.K G W Fx σ H Q → tE X.K G W (dComp (own.map (·.2)) t Fi Ft Fe) σ H Q) :
    S3 X G W (.Assign [.Name y py] (.ListComp elt [⟨tg, iter, ifs, 0⟩] scope pos) spos) (sSet j Fx) := by
  have ok : BlkOk X.N X.env.scope scope own := by
    rw [O.nm, O.hsc]
    exact blkOk_by hb
  have hyl2 : X.env.scope.names.lookup y = some .local := by
    rw [O.hsc]
    exact of_decide_eq_true hyl
  have hsw : swapsWith (.ListComp elt [⟨tg, iter, ifs, 0⟩] scope pos) (some (.Name y py)) spos.line X.env = pure true := sw_true (by rw [O.hsc]; exact hk) hyl2 hl ha
  refine ps_imp (ps_setLc (te := tE X.K G WNo Fe) (O.calm hcm) O.nd (by rw [O.nm]; exact hy) hyl2 hsw hi ok hg ht he hs) fun E σ H ⟨ι, M, δ, μ, So, R, f⟩ => ?_
  refine comp_read hsl σ H _ (hx σ H _ ⟨ι, M, δ, μ, So, R, (FinS.ofE R f).imp fun ι1 M1 H1 μ1 d p1 x1 S1 q v rv => ?_⟩)
  exact q ι1 M1 H1 _ (Nx.refl S1) ((R.mono p1 x1).set rv)
end
end L3

set_option maxRecDepth 100000
set_option maxHeartbeats 2000000
/-! L4z: methods of lists and texts, an empty dict. -/
namespace L3
open PySem PySem.Spec PyProof.Rows L2
def BM.nm : BM → Str
  | .append => "append"
  | .insert => "insert"
  | .startswith => "startswith"
  | .partition => "partition"
  | .join => "join"
  | .split => "split"
def BM.ty : BM → String
  | .append => "list"
  | .insert => "list"
  | .startswith => "str"
  | .partition => "str"
  | .join => "str"
  | .split => "str"
def BM.id : BM → String
  | .append => "list.append"
  | .insert => "list.insert"
  | .startswith => "str.startswith"
  | .partition => "str.partition"
  | .join => "str.join"
  | .split => "str.split"
theorem bm_slot (m : BM) : PlainAttrs m.ty ∧ Slot m.ty m.nm m.id ∧ typeOf (.builtin m.id) = pure (.type "method_descriptor") := by
  cases m with
  | append => exact ⟨PySem.F.plainAttrs_list, PySem.F.slot_list_append, PySem.F.type_list_append⟩
  | insert => exact ⟨PySem.F.plainAttrs_list, PySem.F.slot_list_insert, PySem.F.type_list_insert⟩
  | startswith => exact ⟨PySem.F.plainAttrs_str, PySem.F.slot_str_startswith, PySem.F.type_str_startswith⟩
  | partition => exact ⟨PySem.F.plainAttrs_str, PySem.F.slot_str_partition, PySem.F.type_str_partition⟩
  | join => exact ⟨PySem.F.plainAttrs_str, PySem.F.slot_str_join, PySem.F.type_str_join⟩
  | split => exact ⟨PySem.F.plainAttrs_str, PySem.F.slot_str_split, PySem.F.type_str_split⟩
section
variable {X : Cx} {G : Gx} {W : WX} {σ : L2.St} {ι : List Addr} {M H : Hp} {μ : Mu} {x : D} {v : V} {ds : List D} {vs : List V} {Q : VK}
theorem lstC_at (h : isLstC x μ = true) : ∃ i ds, x = .cell i ∧ μ[i]? = some (.lst ds) := by
  unfold isLstC at h
  split at h
  · split at h
    · rename_i e; exact ⟨_, _, rfl, e⟩
    · cases h
  · cases h
theorem bm_ty {m : BM} (S : Sto X.K G ι M H μ) (r : Rep X.K G ι M v x) (h : m.ok x μ = true) : tyV X.K m.ty v H := by
  have l : isLstC x μ = true → tyV X.K "list" v H := fun h => by
    obtain ⟨i, ds, rfl, e⟩ := lstC_at h
    obtain ⟨a, xs, rfl, _, k, _⟩ := S.lst e r
    exact .inl ⟨rfl, xs, SqL.of k⟩
  have s : isStrD x = true → tyV X.K "str" v H := fun h => by
    cases x with
    | str z => cases rep_str r; exact rfl
    | _ => cases h
  cases m with
  | append => exact l h
  | insert => exact l h
  | startswith => exact s h
  | partition => exact s h
  | join => exact s h
  | split => exact s h
theorem wr_at {i : Nat} {f : List D → Option (List D)} (S : Sto X.K G ι M H μ) (r : Rep X.K G ι M v (.cell i)) (q : FinD X G W σ ι M (wrS i f μ) Q) :
    ∃ a xs ds es, v = .ref a ∧ H a = some (.lst xs) ∧ Reps X.K G ι M xs ds ∧ f ds = some es ∧ ∀ ys, Reps X.K G ι M ys es → Q .non (upd H a (.lst ys)) := by
  unfold wrS at q
  split at q
  · rename_i ds e
    split at q
    · rename_i es e2
      obtain ⟨a, xs, rfl, hi, h, rs⟩ := S.lst e r
      exact ⟨a, xs, ds, es, rfl, h, rs, e2, fun ys r2 => q.ok (S.write hi ⟨ys, upd_same, r2⟩) _ .non⟩
    · exact q.elim
  · exact q.elim
theorem strs_reps {K : PySem.W.Frag} {G : Gx} {ι : List Addr} {M : Hp} : ∀ {xs : List V} {ds : List D} {ys : List Str}, Reps K G ι M xs ds → strsOf ds = some ys → xs = ys.map V.str
  | [], _, _, .nil, e => by cases e; rfl
  | v :: vs, d :: ds, ys, .cons r rr, e => by
    cases d with
    | str a =>
      have e : (match strsOf ds with
        | some ys => some (a :: ys)
        | none => none) = some ys := e
      split at e
      · rename_i zs e2
        cases e
        cases rep_str r
        rw [strs_reps rr e2]
        rfl
      · cases e
    | _ => cases e
theorem reps_strs {K : PySem.W.Frag} {G : Gx} {ι : List Addr} {M : Hp} : ∀ ys : List Str, Reps K G ι M (ys.map V.str) (ys.map D.str)
  | [] => .nil
  | _ :: r => .cons .str (reps_strs r)
theorem bm_rule (m : BM) : ∃ r : V → List V → Hp → VK → Prop, MtR X m.id r ∧ ∀ {σ : L2.St} {ι : List Addr} {M H : Hp} {μ : Mu} {x : D} {v : V} {ds : List D} {vs : List V} {Q : VK}, Sto X.K G ι M H μ → Rep X.K G ι M v x → Reps X.K G ι M vs ds → FinD X G W σ ι M (bmR m x ds μ) Q → r v vs H Q := by
  cases m with
  | append =>
    refine ⟨_, mt_append, fun {σ ι M H μ x v ds vs Q} S r rs q => ?_⟩
    have q0 : FinD X G W σ ι M (appS x ds μ) Q := q
    clear q
    unfold appS at q0
    split at q0
    · rename_i i y
      obtain ⟨u, rfl, r1⟩ := reps1 rs
      obtain ⟨a, xs, ds, es, rfl, h, rx, e, q⟩ := wr_at S r q0
      unfold appF at e
      split at e
      · rename_i hl
        cases e
        exact ⟨a, xs, u, rfl, rfl, h, by rw [rx.length]; exact line_lt (by omega), q _ (rx.append (.cons r1 .nil))⟩
      · cases e
    · exact q0.elim
  | insert =>
    refine ⟨_, mt_insert, fun {σ ι M H μ x v ds vs Q} S r rs q => ?_⟩
    have q0 : FinD X G W σ ι M (insS x ds μ) Q := q
    clear q
    unfold insS at q0
    split at q0
    · rename_i i k y
      obtain ⟨u1, u2, rfl, r1, r2⟩ := reps2 rs
      cases rep_int r1
      obtain ⟨a, xs, ds, es, rfl, h, rx, e, q⟩ := wr_at S r q0
      unfold insF at e
      split at e
      · rename_i hl
        cases e
        exact ⟨a, xs, k, u2, rfl, rfl, h, by rw [rx.length]; exact line_lt (by omega), hl.2.1, by have := hl.2.2; omega, q _ (((rx.take _).append (.cons r2 .nil)).append (rx.drop _))⟩
      · cases e
    · exact q0.elim
  | startswith =>
    refine ⟨_, mt_startswith, fun {σ ι M H μ x v ds vs Q} S r rs q => ?_⟩
    have q0 : FinD X G W σ ι M (swS x ds μ) Q := q
    clear q
    unfold swS at q0
    split at q0
    · rename_i a b
      obtain ⟨u, rfl, r1⟩ := reps1 rs
      cases rep_str r
      cases rep_str r1
      exact ⟨a, b, rfl, rfl, q0.ok S _ .bl⟩
    · exact q0.elim
  | partition =>
    refine ⟨_, mt_partition, fun {σ ι M H μ x v ds vs Q} S r rs q => ?_⟩
    have q0 : FinD X G W σ ι M (ptS x ds μ) Q := q
    clear q
    unfold ptS at q0
    split at q0
    · rename_i a b
      obtain ⟨u, rfl, r1⟩ := reps1 rs
      cases rep_str r
      cases rep_str r1
      split at q0
      · rename_i hl
        exact ⟨a, b, rfl, rfl, hl.1, line_of hl.2, fun p hp => Fin3.frz q0 S hp fun x => .tup (SqT.of upd_same) (.cons .str (.cons .str (.cons .str .nil)))⟩
      · exact q0.elim
    · exact q0.elim
  | join =>
    refine ⟨_, mt_join, fun {σ ι M H μ x v ds vs Q} S r rs q => ?_⟩
    have q0 : FinD X G W σ ι M (jnS x ds μ) Q := q
    clear q
    unfold jnS at q0
    split at q0
    · rename_i a y
      obtain ⟨u, rfl, r1⟩ := reps1 rs
      cases rep_str r
      split at q0
      · rename_i xs e1
        split at q0
        · rename_i ys e2
          by_cases hl : (ys.map (·.length)).sum + ys.length * a.length ≤ 1000000
          · rw [if_pos hl] at q0
            obtain ⟨p, zs, rfl, r2, k⟩ := seq_at S r1 e1
            have ez := strs_reps r2 e2
            subst ez
            refine ⟨a, p, ys, rfl, rfl, ?_, by omega, q0.ok S _ .str⟩
            rcases k with ⟨k, _⟩ | ⟨k, _⟩
            · exact .inr (k.ext S.fz)
            · exact .inl k
          · rw [if_neg hl] at q0
            exact q0.elim
        · exact q0.elim
      · exact q0.elim
    · exact q0.elim
  | split =>
    refine ⟨_, mt_split, fun {σ ι M H μ x v ds vs Q} S r rs q => ?_⟩
    have q0 : FinD X G W σ ι M (spS x ds μ) Q := q
    clear q
    unfold spS at q0
    split at q0
    · rename_i a b
      obtain ⟨u, rfl, r1⟩ := reps1 rs
      cases rep_str r
      cases rep_str r1
      by_cases hl : (b.length == 0) = false ∧ a.length + 2 ≤ 1000000
      · rw [if_pos hl] at q0
        exact ⟨a, b, rfl, rfl, hl.1, line_of hl.2, fun p hp => Fin3.frz q0 S hp fun x => .lst upd_same (reps_strs _)⟩
      · rw [if_neg hl] at q0
        exact q0.elim
    · exact q0.elim
theorem e_bm {o e : Expr} {es : List Expr} {Fo : FE} {Fa : FA} {apos pos : Pos} (m : BM) (ho : E3 X G W o Fo) (ha : A3 X G W (e :: es) Fa) (h1 : notSuper o = true) (h2 : plainL (e :: es) = true) (h3 : decide ((e :: es).length < 30) = true) (h4 : (apos.endLine == pos.line) = true) :
    E3 X G W (.Call (.Attribute o m.nm apos) (e :: es) [] pos) (fun δ μ => (Fo δ μ).bind fun x μ => bmS m x (Fa δ) μ) := by
  obtain ⟨s1, s2, s3⟩ := bm_slot m
  obtain ⟨r, hm, hr⟩ := bm_rule (X := X) (G := G) (W := W) m
  obtain ⟨p1, p2⟩ := Bool.and_eq_true_iff.mp (show (plainE e && plainL es) = true from h2)
  have few : ((backTo pos (starEach (e :: es) X.env)).all (fun x => !x.1) && (backToKw pos (keywordEach [] X.env)).all (fun x => x.1.isSome) && decide ((e :: es).length + ([] : List Keyword).length + (if ([] : List Keyword).isEmpty then 0 else 1) < 30)) = true := by
    rw [star_all h2]
    show (true && true && decide ((e :: es).length + 0 + 0 < 30)) = true
    simpa using h3
  refine pe_imp (pe_bm s1 s2 s3 hm ho ha (attr_base h1) few h4 (star_plain p1) (star_any p2)) fun σ H Q ⟨ι, M, δ, μ, S', R, f⟩ => ⟨ι, M, δ, μ, S', R, (Fin3.bind f).imp fun ι1 M1 H1 μ1 d p1 x1 S1 q v rv => ?_⟩
  unfold bmS at q
  split at q
  · rename_i hk
    exact ⟨bm_ty S1 rv hk, ι1, M1, δ, μ1, S1, R.mono p1 x1, (Fin3.bind q).imp fun ι2 M2 H2 μ2 ds p2 x2 S2 q2 vs rvs => hr S2 (rv.mono p2 x2) rvs q2⟩
  · exact q.elim
/-- {} -/
theorem e_dnew {pos : Pos} : E3 X G W (.Dict [] [] pos) (fun _ μ => .ok (.cell μ.length) (μ ++ [.dct []])) :=
  pe_imp pe_dnewK fun σ H Q ⟨ι, M, δ, μ, S', R, f⟩ p hp => Fin3.new (c := .dct []) f S' hp ⟨[], upd_same, rfl, .nil⟩
/-! ### an exception without fields -/
theorem pmk0 {C : Addr} {x : Str} {p pos : Pos} (q : PySem.W.excIn X.K C He.veBase "ValueError.__new__" = true) (gC : X.mg x = some (.ref C)) (kC : PySem.W.keepIn X.K (.ref C) = true) (r : Raises X (.ref C)) (hg : Gl X x) (hdb : (x == ("__debug__" : Str)) = false) :
    PMk X (.Call (.Name x p) [] [] pos) (fun _ H Q => Q (.ref C) none H) := by
  intro pins s σ H Q I h
  refine wpAny_Call_Name_kw (ld_glob I hg gC ?_ hdb)
  refine PySem.W.callWith_K0 I.kIn kC ?_
  show wpAny _ _ (call (.ref C) []) _ _ _
  obtain ⟨bm, N, nm, qn, bs, hdct, sn, sub, ab, col, dd, k0, k1, k2, k3, k5, mN, hC, hN, hni, T⟩ := exc_obj I.kIn q
  exact wpAny_call_exc_subT PySem.F.excBase_ValueError T hC hN hni (fun h' e hm => mk_of I hm r h (I.hok.gone hm.new)) (Nat.zero_le _)
theorem s_raise0 {S : Sig} {fd : Nat → FuncData} {k : Nat} {run : Nat → List D → PM D} {sc : Scope} {N : List Str} {cm : Bool} {ev : Option Nat} {x : Str} {p p0 pos : Pos} (O : XOk X G W S fd k run sc N cm ev) (hcm : cm = true) {c : Nat} {ci : Cd} (hx0 : S.x0 c = true) (hc : S.cs[c]? = some ci) (hx : ci.nm = x) (hg : glB sc x = true) (hn : okN x = true) :
    S3 X G W (.Raise (some (.Call (.Name x p) [] [] p0)) none pos) (fun δ μ => raise0S S c δ μ) := by
  obtain ⟨T1, T2, T3, T4⟩ := O.tb.x0 c hx0
  obtain ⟨o1, o2, o3⟩ := okN_of hn
  have hm : X.mg x = some (.ref (G.cA c)) := by rw [← hx]; exact O.tb.glc c ci hc
  refine ps_imp (ps_raise (O.calm hcm) O.tk (pmk0 T1 hm T2 (raises_own T3 T4) (O.gl hg) o1)) ?_
  rintro D σ H ⟨ι, M, δ, μ, So, R, f⟩
  have f : FinS X.K G W ι M (raise0S S c δ μ) D := f
  unfold raise0S at f
  rw [if_pos hx0] at f
  exact f ι M H σ none (Nx.refl So) R rfl
/-! ### x op= e -/
theorem s_aug {S : Sig} {fd : Nat → FuncData} {k : Nat} {run : Nat → List D → PM D} {sc : Scope} {N : List Str} {cm : Bool} {ev : Option Nat} {x : Str} {p pos : Pos} {i : Nat} {o : Operator} {e : Expr} {Fe : FE} (O : XOk X G W S fd k run sc N cm ev) (hcm : cm = true) (hi : X.N[i]? = some x) (hx : Loc X.env.scope x)
    (hf : X.fn x = true ∨ X.env.scope.names.lookup x = some .local) (he : E3 X G W e Fe) (ho : o ∈ [Operator.Add, .Sub]) : S3 X G W (.AugAssign (.Name x p) o e pos) (augE i o Fe) := by
  have hop : ∃ ti : TIp, PIp X o ti ∧ ∀ {σ : L2.St} {ι : List Addr} {M H : Hp} {μ : Mu} {x y : D} {v u : V} {Q : VK}, Sto X.K G ι M H μ → Rep X.K G ι M v x → Rep X.K G ι M u y → FinD X G W σ ι M (augS o x y μ) Q → ti v u H Q := by
    rcases List.mem_cons.mp ho with rfl | ho
    · refine ⟨rAdd, in_add, fun S' r r' q => ?_⟩
      unfold augS at q
      split at q
      · cases rep_int r; cases rep_int r'; exact ⟨_, _, rfl, rfl, q.ok S' _ .int⟩
      · exact absurd ‹Operator.Add = Operator.Sub› (by decide)
      · exact q.elim
    · rcases List.mem_cons.mp ho with rfl | ho
      · refine ⟨rSub, in_sub, fun S' r r' q => ?_⟩
        unfold augS at q
        split at q
        · exact absurd ‹Operator.Sub = Operator.Add› (by decide)
        · cases rep_int r; cases rep_int r'; exact ⟨_, _, rfl, rfl, q.ok S' _ .int⟩
        · exact q.elim
      · cases ho
  obtain ⟨ti, h1, h2⟩ := hop
  refine ps_imp (ps_aug O.nd hi hx he h1 hf) ?_
  rintro E σ H ⟨ι, M, δ, μ, So, R, f⟩
  unfold augE at f
  split at f
  · rename_i d ed
    obtain ⟨v, hv, rv⟩ := R.2 i d ed
    have rv := rv.resolve_right fun ⟨_, _, _, _, _, _, z, _⟩ => by rw [O.ec hcm] at z; cases z
    refine ⟨v, hv, ι, M, δ, μ, So, R, (FinS.ofE R f).imp fun ι1 M1 H1 μ1 y p1 x1 S1 q u ru => ?_⟩
    exact h2 (σ := σ) S1 (rv.mono p1 x1) ru ((FinS.ofE (R.mono p1 x1) q).imp fun ι2 M2 H2 μ2 z p2 x2 S2 q2 w rw => q2 ι2 M2 H2 _ (Nx.refl S2) (((R.mono p1 x1).mono p2 x2).set rw))
  · exact f.elim
end
end L3

set_option maxRecDepth 100000
set_option maxHeartbeats 2000000
/-! L4g: the check of a text against the small language, and that the check is enough: expressions. -/
namespace L3
open PySem PySem.Spec PyProof.Rows L2
/-- what a check looks at -/
structure Cf where
  S : Sig
  sc : Scope
  N : List Str
  cm : Bool := true
  ev : Option Nat := none
def binOps : List Operator := [.Add, .Sub, .Mult, .FloorDiv, .Mod, .Pow]
def notSlice : Expr → Bool
  | .Slice .. => false
  | _ => true
theorem plainIx_of {b : Expr} (h : notSlice b = true) : PlainIx b := by
  intro o i
  cases b <;> first | rfl | (simp [notSlice] at h; done)
/-- an expression whose test is its value's -/
def plainT : Expr → Bool
  | .UnaryOp .Not _ _ => false
  | .BoolOp .. => false
  | .IfExp .. => false
  | .Compare .. => false
  | _ => true
theorem plainT_of {e : Expr} {env : Env} (h : plainT e = true) : ∀ whole, isTrue e env whole = (do let v ← whole; standAt e.pos; holding [v] (truthy v)) := by
  intro whole
  cases e with
  | UnaryOp op x pos => cases op <;> first | rfl | (simp [plainT] at h; done)
  | BoolOp => simp [plainT] at h
  | IfExp => simp [plainT] at h
  | Compare => simp [plainT] at h
  | _ => rfl
def biName (b : BI) : Str := b.val.1
theorem bi_boot (b : BI) : bootBuiltins (biName b) = some b.val.2 := by cases b <;> decide +kernel
theorem bi_name (b : BI) : okN (biName b) = true := by cases b <;> decide
def optB {α : Type} (o : Option α) (f : α → Bool) : Bool := match o with
  | some a => f a
  | none => false
def notSet : Expr → Bool
  | .Set .. => false
  | _ => true
theorem folded_of {e : Expr} {env : Env} (h : notSet e = true) : ∀ x, foldedSetIterable e env x = pure x := by
  intro x
  cases e <;> first | rfl | (simp [notSet] at h; done)
/-- a block's targets: its own plain names -/
def ckUB (C : Cf) (sc : Scope) : List Expr → List Nat → Bool
  | [], [] => true
  | .Name y _ :: r, i :: is => (decide (C.N[i]? = some y) && (decide (C.sc.names.lookup y = some .local))) && ckUB C sc r is
  | _, _ => false
def ckGB (C : Cf) (sc : Scope) (e : Expr) (t : Tg) : Bool := match t with
  | .one i => (match e with
    | .Name y _ => decide (C.N[i]? = some y) && decide (C.sc.names.lookup y = some .local)
    | _ => false)
  | .tup is => (match e with
    | .Tuple l _ _ => ckUB C sc l is
    | _ => false)
mutual
def ckE : Nat → Cf → Expr → JE → Bool
  | 0, _, _, _ => false
  | n + 1, C, e, x => match x with
    | .var i => (match e with
      | .Name y _ => !decide (C.ev = some i) && (decide (C.N[i]? = some y) && (visB C.sc y && okN y))
      | _ => false)
    | .int i => (match e with
      | .Constant (.int j) _ _ => decide (i = j)
      | _ => false)
    | .bl b => (match e with
      | .Constant (.bool c) _ _ => decide (b = c)
      | _ => false)
    | .str z => (match e with
      | .Constant (.str w) _ _ => decide (z = w)
      | _ => false)
    | .non => (match e with
      | .Constant .none _ _ => true
      | _ => false)
    | .glo m => (match e with
      | .Name y _ => optB C.S.ks[m]? (fun k => decide (k.1 = y)) && (glB C.sc y && okN y)
      | _ => false)
    | .bin o a b => (match e with
      | .BinOp ea o' eb _ => C.cm && (decide (o' = o) && (decide (o ∈ binOps) && (ckE n C ea a && ckE n C eb b)))
      | _ => false)
    | .un o a => (match e with
      | .UnaryOp o' ea _ => C.cm && (decide (o' = o) && ckE n C ea a)
      | _ => false)
    | .cmp o a b => (match e with
      | .Compare ea [o'] [eb] _ => C.cm && (decide (o' = o) && (!behindInMarks o eb && (ckE n C ea a && ckE n C eb b)))
      | _ => false)
    | .cmp2 o p a b c => (match e with
      | .Compare ea [o', p'] [eb, ec] _ => C.cm && ((decide (o' = o) && decide (p' = p)) && (!lastMarks [o, p] [eb, ec] && (ckE n C ea a && (ckE n C eb b && ckE n C ec c))))
      | _ => false)
    | .and a b => (match e with
      | .BoolOp .And l _ => ckBE n C .And l (.and a b)
      | _ => false)
    | .or a b => (match e with
      | .BoolOp .Or l _ => ckBE n C .Or l (.or a b)
      | _ => false)
    | .not a => (match e with
      | .UnaryOp .Not ea _ => ckE n C ea a
      | _ => false)
    | .ite c a b => (match e with
      | .IfExp ec ea eb _ => ckT n C ec c && (ckE n C ea a && ckE n C eb b)
      | _ => false)
    | .tup es => (match e with
      | .Tuple l _ _ => ckA n C l es
      | _ => false)
    | .lst es => (match e with
      | .List l _ => ckA n C l es
      | _ => false)
    | .lstC es => (match e with
      | .List l _ => ckA n C l es
      | _ => false)
    | .call f es => (match e with
      | .Call (.Name y _) l [] _ => C.cm && (optB C.S.fs[f]? (fun fi => decide (fi.d.at_ = (y, none))) && ((glB C.sc y && okN y) && ckA n C l es))
      | .Call (.Attribute (.Name y _) m apos) l [] pos => C.cm && (((List.range C.S.cs.length).any fun c => decide (C.S.sm c m = some f) && optB C.S.cs[c]? (fun ci => decide (ci.nm = y))) && ((glB C.sc y && okN y) && ((decide (l.length < 30) && (apos.endLine == pos.line)) && ckA n C l es)))
      | _ => false)
    | .callK j es ks => (match e with
      | .Call (.Name y _) l kl _ => C.cm && (optB C.S.sh[j]? (fun sh => optB C.S.fs[sh.f]? (fun fi => decide (fi.d.at_ = (y, none))) && namedL kl sh.ks) && ((glB C.sc y && okN y) && (ckA n C l es && ckK n C kl ks)))
      | _ => false)
    | .mk c es => (match e with
      | .Call (.Name y _) l [] _ => C.cm && (optB C.S.cs[c]? (fun ci => decide (ci.nm = y)) && ((C.S.mi c "__init__").isSome && ((glB C.sc y && okN y) && ckA n C l es)))
      | _ => false)
    | .mkC c es => (match e with
      | .Call (.Name y _) l [] _ => C.cm && (optB C.S.cs[c]? (fun ci => decide (ci.nm = y)) && ((C.S.mi c "__init__").isSome && ((glB C.sc y && okN y) && ckA n C l es)))
      | _ => false)
    | .mkK j c es ks => (match e with
      | .Call (.Name y _) l kl _ => C.cm && (optB C.S.cs[c]? (fun ci => decide (ci.nm = y)) && (optB C.S.sh[j]? (fun sh => ((C.S.fs[sh.f]?).isSome && (decide (C.S.mi c "__init__" = some sh.f) && decide (1 ≤ sh.n))) && namedL kl sh.ks) && ((glB C.sc y && okN y) && (ckA n C l es && ckK n C kl ks))))
      | _ => false)
    | .meth m o es => (match e with
      | .Call (.Attribute eo m' apos) l [] pos => C.cm && (decide (m' = m) && ((notSuper eo && (decide (l.length < 30) && (apos.endLine == pos.line))) && (ckE n C eo o && ckA n C l es)))
      | _ => false)
    | .attr y o => (match e with
      | .Attribute eo y' _ => decide (y' = y) && (notSuper eo && ckE n C eo o)
      | _ => false)
    | .ix a b => (match e with
      | .Subscript ea eb _ => notSlice eb && (ckE n C ea a && ckE n C eb b)
      | _ => false)
    | .bi b es => (match e with
      | .Call (.Name y _) l [] _ => C.cm && (decide (y = biName b) && (decide (y ∈ C.S.free) && (glB C.sc y && (!l.isEmpty && ckA n C l es))))
      | _ => false)
    | .sl _ a lo hi => (match e with
      | .Subscript ea (.Slice l h none _) _ => ckE n C ea a && (ckO n C l lo && ckO n C h hi)
      | _ => false)
    | .fz a => ckE n C e a
    | .bm m o es => (match e with
      | .Call (.Attribute eo m' apos) l [] pos => decide (m' = m.nm) && ((notSuper eo && (decide (l.length < 30) && (apos.endLine == pos.line))) && (!l.isEmpty && (ckE n C eo o && ckA n C l es)))
      | _ => false)
    | .dnew => (match e with
      | .Dict [] [] _ => true
      | _ => false)
    | .comp own t it c a => (match e with
      | .ListComp elt [⟨tg, iter, ifs, 0⟩] scope _ => C.cm && ((blkC C.N C.sc scope own && (t.slots.all fun i => decide (i ∈ own.map (·.2)))) && (notSet iter && (ckI n C tg iter it && (ckGB { C with sc := relS scope C.sc } scope tg t && (ckC n { C with sc := relS scope C.sc } ifs c && ckE n { C with sc := relS scope C.sc } elt a)))))
      | _ => false)
    | .eFld i x => (match e with
      | .Attribute (.Name y _) x' _ => decide (x' = x) && (decide (C.ev = some i) && (decide (C.N[i]? = some y) && (visB C.sc y && okN y)))
      | _ => false)
    | .eIs i t => (match e with
      | .Call (.Name f _) [.Name y _, .Name z _] [] _ => decide (f = "isinstance") && (decide (f ∈ C.S.free) && (glB C.sc f && ((decide (C.ev = some i) && (decide (C.N[i]? = some y) && (visB C.sc y && okN y))) && (glB C.sc z && (okN z && xnB C.S t z)))))
      | _ => false)
def ckBE : Nat → Cf → BoolOp → List Expr → JE → Bool
  | 0, _, _, _, _ => false
  | n + 1, C, op, l, x => match l with
    | [] => false
    | [e] => ckE n C e x
    | e :: e2 :: r => (match op, x with
      | .And, .and a b => ckE n C e a && ckBE n C op (e2 :: r) b
      | .Or, .or a b => ckE n C e a && ckBE n C op (e2 :: r) b
      | _, _ => false)
def ckA : Nat → Cf → List Expr → JA → Bool
  | 0, _, _, _ => false
  | n + 1, C, l, x => match l, x with
    | [], .nil => true
    | e :: r, .cons a b => plainE e && (ckE n C e a && ckA n C r b)
    | _, _ => false
def ckK : Nat → Cf → List Keyword → JA → Bool
  | 0, _, _, _ => false
  | n + 1, C, l, x => match l, x with
    | [], .nil => true
    | e :: r, .cons a b => ckE n C e.value a && ckK n C r b
    | _, _ => false
def ckO : Nat → Cf → Option Expr → JO → Bool
  | 0, _, _, _ => false
  | n + 1, C, l, x => match l, x with
    | none, .none => true
    | some e, .some a => ckE n C e a
    | _, _ => false
def ckT : Nat → Cf → Expr → JT → Bool
  | 0, _, _, _ => false
  | n + 1, C, e, x => match x with
    | .val a => (match e, a with
      | .Compare ea [o'] [eb] _, .cmp o a b => C.cm && (decide (o' = o) && (!behindInMarks o eb && (ckE n C ea a && ckE n C eb b)))
      | .Compare ea [o', p'] [eb, ec] _, .cmp2 o p a b c => C.cm && ((decide (o' = o) && decide (p' = p)) && (!lastMarks [o, p] [eb, ec] && (ckE n C ea a && (ckE n C eb b && ckE n C ec c))))
      | e, a => plainT e && ckE n C e a)
    | .and a b => (match e with
      | .BoolOp .And l _ => ckBT n C .And l (.and a b)
      | _ => false)
    | .or a b => (match e with
      | .BoolOp .Or l _ => ckBT n C .Or l (.or a b)
      | _ => false)
    | .not a => (match e with
      | .UnaryOp .Not ea _ => ckT n C ea a
      | _ => false)
def ckC : Nat → Cf → List Expr → JC → Bool
  | 0, _, _, _ => false
  | n + 1, C, l, x => match l, x with
    | [], .none => true
    | [e], .some t => ckT n C e t
    | _, _ => false
def ckI : Nat → Cf → Expr → Expr → JI → Bool
  | 0, _, _, _, _ => false
  | n + 1, C, tg, e, x => match x with
    | .seq a => ckE n C e a
    | .txt a => ckE n C e a
    | .range1 a => (match e with
      | .Call (.Name y _) [ea] [] _ => decide (y = "range") && (decide (y ∈ C.S.free) && (glB C.sc y && (plainE ea && ckE n C ea a)))
      | _ => false)
    | .range2 a b => (match e with
      | .Call (.Name y _) [ea, eb] [] _ => decide (y = "range") && (decide (y ∈ C.S.free) && (glB C.sc y && ((plainE ea && plainE eb) && (ckE n C ea a && ckE n C eb b))))
      | _ => false)
    | .enum a => (match tg, e with
      | .Tuple _ _ _, .Call (.Name y _) [ea] [] _ => decide (y = "enumerate") && (decide (y ∈ C.S.free) && (glB C.sc y && (plainE ea && ckE n C ea a)))
      | _, _ => false)
    | .zip a b => (match tg, e with
      | .Tuple _ _ _, .Call (.Name y _) [ea, eb] [] _ => decide (y = "zip") && (decide (y ∈ C.S.free) && (glB C.sc y && ((plainE ea && plainE eb) && (ckE n C ea a && ckE n C eb b))))
      | _, _ => false)
def ckBT : Nat → Cf → BoolOp → List Expr → JT → Bool
  | 0, _, _, _, _ => false
  | n + 1, C, op, l, x => match l with
    | [] => false
    | [e] => ckT n C e x
    | e :: e2 :: r => (match op, x with
      | .And, .and a b => ckT n C e a && ckBT n C op (e2 :: r) b
      | .Or, .or a b => ckT n C e a && ckBT n C op (e2 :: r) b
      | _, _ => false)
end
end L3

set_option maxRecDepth 100000
set_option maxHeartbeats 4000000
/-! L4h: the check is enough: expressions. -/
namespace L3
open PySem PySem.Spec PyProof.Rows L2
structure Snd (X : Cx) (G : Gx) (W : WX) (C : Cf) (run : Nat → List D → PM D) (n : Nat) : Prop where
  E : ∀ e x, ckE n C e x = true → E3 X G W e (semE C.S run x)
  BE : ∀ op l x pos, ckBE n C op l x = true → E3 X G W (.BoolOp op l pos) (semE C.S run x)
  A : ∀ l x, ckA n C l x = true → A3 X G W l (semA C.S run x) ∧ plainL l = true ∧ (l = [] → semA C.S run x = aNil)
  K : ∀ l x, ckK n C l x = true → K3 X G W l (semA C.S run x)
  O : ∀ l x, ckO n C l x = true → O3 X G W l (semO C.S run x)
  T : ∀ e x, ckT n C e x = true → T3 X G W e (semT C.S run x)
  BT : ∀ op l x pos, ckBT n C op l x = true → W3 X G W (.BoolOp op l pos) (semT C.S run x)
  I : ∀ tg e x, ckI n C tg e x = true → I3 X G W tg e (semI C.S run x)
  C_ : ∀ l x, ckC n C l x = true → PTs X l (tT X.K G W (semC C.S run x))
/-- at every place -/
def SndA (fd : Nat → FuncData) (k : Nat) (run : Nat → List D → PM D) (n : Nat) : Prop := ∀ (X : Cx) (G : Gx) (W : WX) (C : Cf), XOk X G W C.S fd k run C.sc C.N C.cm C.ev → Snd X G W C run n
theorem ff {p : Prop} (h : false = true) : p := Bool.noConfusion h
theorem b2 {a b : Bool} (h : (a && b) = true) : a = true ∧ b = true := Bool.and_eq_true_iff.mp h
theorem bn {a : Bool} (h : (!a) = true) : a = false := by cases a <;> first | rfl | cases h
section
variable {X : Cx} {G : Gx} {W : WX} {C : Cf} {fd : Nat → FuncData} {k : Nat} {run : Nat → List D → PM D} {n : Nat}
theorem snd_A (O : XOk X G W C.S fd k run C.sc C.N C.cm C.ev) (I : Snd X G W C run n) : ∀ l x, ckA (n + 1) C l x = true → A3 X G W l (semA C.S run x) ∧ plainL l = true ∧ (l = [] → semA C.S run x = aNil) := by
  intro l x h
  cases l with
  | nil =>
    cases x with
    | nil => exact ⟨a_nil, rfl, fun _ => rfl⟩
    | cons a b => exact ff h
  | cons e r =>
    cases x with
    | nil => exact ff h
    | cons a b =>
      obtain ⟨h1, h⟩ := b2 (show (plainE e && (ckE n C e a && ckA n C r b)) = true from h)
      obtain ⟨h2, h3⟩ := b2 h
      obtain ⟨r1, r2, _⟩ := I.A r b h3
      exact ⟨a_cons (I.E e a h2) r1 (star_plain h1), by show (plainE e && plainL r) = true; rw [h1, r2]; rfl, fun z => by cases z⟩
theorem snd_K (O : XOk X G W C.S fd k run C.sc C.N C.cm C.ev) (I : Snd X G W C run n) : ∀ l x, ckK (n + 1) C l x = true → K3 X G W l (semA C.S run x) := by
  intro l x h
  cases l with
  | nil =>
    cases x with
    | nil => exact k_nil
    | cons a b => exact ff h
  | cons e r =>
    cases x with
    | nil => exact ff h
    | cons a b =>
      obtain ⟨h1, h2⟩ := b2 (show (ckE n C e.value a && ckK n C r b) = true from h)
      obtain ⟨nm, v, p⟩ := e
      exact k_cons (I.E v a h1) (I.K r b h2)
theorem snd_O (O : XOk X G W C.S fd k run C.sc C.N C.cm C.ev) (I : Snd X G W C run n) : ∀ l x, ckO (n + 1) C l x = true → O3 X G W l (semO C.S run x) := by
  intro l x h
  cases l with
  | none =>
    cases x with
    | none => exact o_none
    | some a => exact ff h
  | some e =>
    cases x with
    | none => exact ff h
    | some a => exact o_some (I.E e a h)
theorem snd_BE (O : XOk X G W C.S fd k run C.sc C.N C.cm C.ev) (I : Snd X G W C run n) : ∀ op l x pos, ckBE (n + 1) C op l x = true → E3 X G W (.BoolOp op l pos) (semE C.S run x) := by
  intro op l x pos h
  match l, h with
  | [], h => exact ff h
  | [e], h => exact e_one (I.E e x h)
  | e :: e2 :: r, h =>
    cases op with
    | And =>
      cases x with
      | and a b =>
        obtain ⟨h1, h2⟩ := b2 (show (ckE n C e a && ckBE n C .And (e2 :: r) b) = true from h)
        exact e_and (I.E e a h1) (I.BE .And _ b pos h2)
      | _ => exact ff h
    | Or =>
      cases x with
      | or a b =>
        obtain ⟨h1, h2⟩ := b2 (show (ckE n C e a && ckBE n C .Or (e2 :: r) b) = true from h)
        exact e_or (I.E e a h1) (I.BE .Or _ b pos h2)
      | _ => exact ff h
theorem snd_BT (O : XOk X G W C.S fd k run C.sc C.N C.cm C.ev) (I : Snd X G W C run n) : ∀ op l x pos, ckBT (n + 1) C op l x = true → W3 X G W (.BoolOp op l pos) (semT C.S run x) := by
  intro op l x pos h
  match l, h with
  | [], h => exact ff h
  | [e], h =>
    cases op with
    | And => exact w_and1 (I.T e x h)
    | Or => exact w_or1 (I.T e x h)
  | e :: e2 :: r, h =>
    cases op with
    | And =>
      cases x with
      | and a b =>
        obtain ⟨h1, h2⟩ := b2 (show (ckT n C e a && ckBT n C .And (e2 :: r) b) = true from h)
        exact w_and (I.T e a h1) (I.BT .And _ b pos h2)
      | _ => exact ff h
    | Or =>
      cases x with
      | or a b =>
        obtain ⟨h1, h2⟩ := b2 (show (ckT n C e a && ckBT n C .Or (e2 :: r) b) = true from h)
        exact w_or (I.T e a h1) (I.BT .Or _ b pos h2)
      | _ => exact ff h
theorem og_c (O : XOk X G W C.S fd k run C.sc C.N C.cm C.ev) (hcm : C.cm = true) (o : CmpOp) : OpG X G W (compareOp o) (cmpS C.S run o) := og_cmp O.tb ((O.room hcm).mono (by omega)) O.tk o
theorem snd_T (O : XOk X G W C.S fd k run C.sc C.N C.cm C.ev) (I : Snd X G W C run n) : ∀ e x, ckT (n + 1) C e x = true → T3 X G W e (semT C.S run x) := by
  intro e x h
  cases x with
  | val a =>
    have plain : (plainT e && ckE n C e a) = true → T3 X G W e (asB (semE C.S run a)) := fun h => by
      obtain ⟨h1, h2⟩ := b2 h
      exact t_val (I.E e a h2) (plainT_of h1)
    unfold ckT at h
    dsimp only at h
    split at h
    · rename_i ea o' eb _ o a b
      obtain ⟨hcm, h⟩ := b2 h
      obtain ⟨h1, h⟩ := b2 h
      obtain ⟨h2, h⟩ := b2 h
      obtain ⟨h3, h4⟩ := b2 h
      cases of_decide_eq_true h1
      exact t_cmpG (og_c O hcm _) (I.E _ _ h3) (I.E _ _ h4) (bn h2)
    · rename_i ea o' p' eb ec _ o p a b c
      obtain ⟨hcm, h⟩ := b2 h
      obtain ⟨h1, h⟩ := b2 h
      obtain ⟨h2, h⟩ := b2 h
      obtain ⟨h3, h⟩ := b2 h
      obtain ⟨h4, h5⟩ := b2 h
      obtain ⟨h6, h7⟩ := b2 h1
      cases of_decide_eq_true h6
      cases of_decide_eq_true h7
      exact t_cmp2 (og_c O hcm _) (og_c O hcm _) (I.E _ _ h3) (I.E _ _ h4) (I.E _ _ h5) (bn h2)
    · exact plain h
  | and a b =>
    unfold ckT at h
    dsimp only at h
    split at h
    · exact t_w (I.BT .And _ _ _ h)
    · exact ff h
  | or a b =>
    unfold ckT at h
    dsimp only at h
    split at h
    · exact t_w (I.BT .Or _ _ _ h)
    · exact ff h
  | not a =>
    unfold ckT at h
    dsimp only at h
    split at h
    · exact t_not (I.T _ _ h)
    · exact ff h
theorem opt_dec {α : Type} {o : Option α} {f : α → Bool} (h : optB o f = true) : ∃ a, o = some a ∧ f a = true := by
  cases o with
  | none => exact ff h
  | some a => exact ⟨a, rfl, h⟩
theorem snd_C (I : Snd X G W C run n) : ∀ l x, ckC (n + 1) C l x = true → PTs X l (tT X.K G W (semC C.S run x)) := by
  intro l x h
  match l, x, h with
  | [], .none, _ => exact pts_yes
  | [e], .some t, h => exact pts_one (I.T e t h)
  | [], .some _, h => exact ff h
  | [_], .none, h => exact ff h
  | _ :: _ :: _, .none, h => exact ff h
  | _ :: _ :: _, .some _, h => exact ff h
theorem snd_I (O : XOk X G W C.S fd k run C.sc C.N C.cm C.ev) (I : Snd X G W C run n) : ∀ tg e x, ckI (n + 1) C tg e x = true → I3 X G W tg e (semI C.S run x) := by
  intro tg e x h
  cases x with
  | seq a => exact i_seq (I.E e a h)
  | txt a => exact i_txt (I.E e a h)
  | range1 a =>
    unfold ckI at h
    dsimp only at h
    split at h
    · obtain ⟨h1, h⟩ := b2 h
      obtain ⟨h2, h⟩ := b2 h
      obtain ⟨h3, h⟩ := b2 h
      obtain ⟨h4, h5⟩ := b2 h
      have e1 := of_decide_eq_true h1
      subst e1
      have fr := O.tb.fr _ (of_decide_eq_true h2)
      exact i_range1 fr (a_cons (I.E _ _ h5) a_nil (star_plain h4)) (O.gl h3) (star_plain h4)
    · exact ff h
  | range2 a b =>
    unfold ckI at h
    dsimp only at h
    split at h
    · obtain ⟨h1, h⟩ := b2 h
      obtain ⟨h2, h⟩ := b2 h
      obtain ⟨h3, h⟩ := b2 h
      obtain ⟨h4, h5⟩ := b2 h
      obtain ⟨h6, h7⟩ := b2 h4
      obtain ⟨h8, h9⟩ := b2 h5
      have e1 := of_decide_eq_true h1
      subst e1
      have fr := O.tb.fr _ (of_decide_eq_true h2)
      have s2 : ∀ {e : Expr}, plainE e = true → starEach [e] X.env = [(false, eval e X.env)] := fun h => star_plain h
      exact i_range2 fr (a_cons (I.E _ _ h8) (a_cons (I.E _ _ h9) a_nil (star_plain h7)) (star_plain h6)) (O.gl h3) (by rw [star_plain h6, s2 h7]) (s2 h7)
    · exact ff h
  | enum a =>
    unfold ckI at h
    dsimp only at h
    split at h
    · obtain ⟨h1, h⟩ := b2 h
      obtain ⟨h2, h⟩ := b2 h
      obtain ⟨h3, h⟩ := b2 h
      obtain ⟨h4, h5⟩ := b2 h
      have e1 := of_decide_eq_true h1
      subst e1
      have fr := O.tb.fr _ (of_decide_eq_true h2)
      exact i_enum fr (a_cons (I.E _ _ h5) a_nil (star_plain h4)) (O.gl h3) (star_plain h4)
    · exact ff h
  | zip a b =>
    unfold ckI at h
    dsimp only at h
    split at h
    · obtain ⟨h1, h⟩ := b2 h
      obtain ⟨h2, h⟩ := b2 h
      obtain ⟨h3, h⟩ := b2 h
      obtain ⟨h4, h5⟩ := b2 h
      obtain ⟨h6, h7⟩ := b2 h4
      obtain ⟨h8, h9⟩ := b2 h5
      have e1 := of_decide_eq_true h1
      subst e1
      have fr := O.tb.fr _ (of_decide_eq_true h2)
      have s2 : ∀ {e : Expr}, plainE e = true → starEach [e] X.env = [(false, eval e X.env)] := fun h => star_plain h
      exact i_zip fr (a_cons (I.E _ _ h8) (a_cons (I.E _ _ h9) a_nil (star_plain h7)) (star_plain h6)) (O.gl h3) (star_plain h6) (by rw [s2 h7]; rfl)
    · exact ff h
/-- a block's targets -/
theorem snd_UB (hsc : X.env.scope = C.sc) (nm : X.N = C.N) (nd : X.N.Nodup) {sc : Scope} : ∀ (l : List Expr) (is : List Nat), ckUB C sc l is = true → PGs X l (gsOf is) ∧ (assignEach l X.env).length = is.length ∧ (assignEach l X.env).findIdx? (·.1) = none
  | [], [], _ => ⟨pgs_nil, rfl, rfl⟩
  | [], _ :: _, h => ff h
  | e :: r, [], h => by cases e <;> exact ff h
  | e :: r, i :: is, h => by
    cases e with
    | Name y p =>
      obtain ⟨h1, h2⟩ := b2 (show ((decide (C.N[i]? = some y) && (decide (C.sc.names.lookup y = some .local))) && ckUB C sc r is) = true from h)
      obtain ⟨h3, h4⟩ := b2 h1
      obtain ⟨u, l1, l2⟩ := snd_UB hsc nm nd r is h2
      have lk : X.env.scope.names.lookup y = some .local := by rw [hsc]; exact of_decide_eq_true h4
      refine ⟨pgs_cons (pg_name nd (by rw [nm]; exact of_decide_eq_true h3) (.inl lk) (.inr lk)) u rfl, ?_, ?_⟩
      · show (assignEach r X.env).length + 1 = is.length + 1
        rw [l1]
      · show List.findIdx? (fun x => x.1) ((false, assign (.Name y p) X.env) :: assignEach r X.env) = none
        rw [List.findIdx?_cons, l2]
        rfl
    | _ => exact ff h
theorem snd_GB (hsc : X.env.scope = C.sc) (nm : X.N = C.N) (nd : X.N.Nodup) (hc : X.calm = true) {sc : Scope} {e : Expr} {t : Tg} (h : ckGB C sc e t = true) : PG X e (gOf X.K t) := by
  cases t with
  | one i =>
    cases e with
    | Name y p =>
      obtain ⟨h3, h4⟩ := b2 (show (decide (C.N[i]? = some y) && decide (C.sc.names.lookup y = some .local)) = true from h)
      have lk : X.env.scope.names.lookup y = some .local := by rw [hsc]; exact of_decide_eq_true h4
      exact pg_name nd (by rw [nm]; exact of_decide_eq_true h3) (.inl lk) (.inr lk)
    | _ => exact ff h
  | tup is =>
    cases e with
    | Tuple l kk p =>
      obtain ⟨u, l1, l2⟩ := snd_UB hsc nm nd l is h
      exact pg_tup hc u l1 l2
    | _ => exact ff h
theorem snd_E (O : XOk X G W C.S fd k run C.sc C.N C.cm C.ev) (A : SndA fd k run n) : ∀ e x, ckE (n + 1) C e x = true → E3 X G W e (semE C.S run x) := by
  intro e x h
  have I := A X G W C O
  have r1 : C.cm = true → Room (k + 1) X.A := fun h => (O.room h).mono (by omega)
  have r0 : C.cm = true → Room k X.A := fun h => (O.room h).mono (by omega)
  cases x with
  | var i =>
    unfold ckE at h
    dsimp only at h
    split at h
    · obtain ⟨h0, h⟩ := b2 h
      obtain ⟨h1, h⟩ := b2 h
      obtain ⟨h2, h3⟩ := b2 h
      exact ev i (fun z e => absurd (O.eq i z e) (of_decide_eq_false (bn h0))) (by rw [O.nm]; exact of_decide_eq_true h1) (O.vis h2) (okN_of h3).1 (okN_of h3).2.1
    · exact ff h
  | int i =>
    unfold ckE at h
    dsimp only at h
    split at h
    · cases of_decide_eq_true h
      exact e_int
    · exact ff h
  | bl b =>
    unfold ckE at h
    dsimp only at h
    split at h
    · cases of_decide_eq_true h
      exact e_bl
    · exact ff h
  | str z =>
    unfold ckE at h
    dsimp only at h
    split at h
    · cases of_decide_eq_true h
      exact e_str
    · exact ff h
  | non =>
    unfold ckE at h
    dsimp only at h
    split at h
    · exact e_non
    · exact ff h
  | glo m =>
    unfold ckE at h
    dsimp only at h
    split at h
    · obtain ⟨h1, h⟩ := b2 h
      obtain ⟨h2, h3⟩ := b2 h
      obtain ⟨⟨y, d⟩, e1, e2⟩ := opt_dec h1
      cases of_decide_eq_true e2
      exact e_glo O e1 h2 h3
    · exact ff h
  | bin o a b =>
    unfold ckE at h
    dsimp only at h
    split at h
    · obtain ⟨hcm, h⟩ := b2 h
      obtain ⟨h1, h⟩ := b2 h
      obtain ⟨h2, h⟩ := b2 h
      obtain ⟨h3, h4⟩ := b2 h
      cases of_decide_eq_true h1
      exact e_binG (og_bin O.tb (r0 hcm) O.tk _ (of_decide_eq_true h2)) (I.E _ _ h3) (I.E _ _ h4)
    · exact ff h
  | un o a =>
    unfold ckE at h
    dsimp only at h
    split at h
    · obtain ⟨hcm, h⟩ := b2 h
      obtain ⟨h1, h2⟩ := b2 h
      cases of_decide_eq_true h1
      exact e_unG (og_un O.tb (r0 hcm) O.tk _) (I.E _ _ h2)
    · exact ff h
  | cmp o a b =>
    unfold ckE at h
    dsimp only at h
    split at h
    · obtain ⟨hcm, h⟩ := b2 h
      obtain ⟨h1, h⟩ := b2 h
      obtain ⟨h2, h⟩ := b2 h
      obtain ⟨h3, h4⟩ := b2 h
      cases of_decide_eq_true h1
      exact e_cmpG (og_c O hcm _) (I.E _ _ h3) (I.E _ _ h4) (bn h2)
    · exact ff h
  | cmp2 o p a b c =>
    unfold ckE at h
    dsimp only at h
    split at h
    · obtain ⟨hcm, h⟩ := b2 h
      obtain ⟨h1, h⟩ := b2 h
      obtain ⟨h2, h⟩ := b2 h
      obtain ⟨h3, h⟩ := b2 h
      obtain ⟨h4, h5⟩ := b2 h
      obtain ⟨h6, h7⟩ := b2 h1
      cases of_decide_eq_true h6
      cases of_decide_eq_true h7
      exact e_cmp2 (og_c O hcm _) (og_c O hcm _) (I.E _ _ h3) (I.E _ _ h4) (I.E _ _ h5) (bn h2)
    · exact ff h
  | and a b =>
    unfold ckE at h
    dsimp only at h
    split at h
    · exact I.BE _ _ _ _ h
    · exact ff h
  | or a b =>
    unfold ckE at h
    dsimp only at h
    split at h
    · exact I.BE _ _ _ _ h
    · exact ff h
  | not a =>
    unfold ckE at h
    dsimp only at h
    split at h
    · exact e_not (I.E _ _ h)
    · exact ff h
  | ite c a b =>
    unfold ckE at h
    dsimp only at h
    split at h
    · obtain ⟨h1, h⟩ := b2 h
      obtain ⟨h3, h4⟩ := b2 h
      exact e_ifExp (I.T _ _ h1) (I.E _ _ h3) (I.E _ _ h4)
    · exact ff h
  | tup es =>
    unfold ckE at h
    dsimp only at h
    split at h
    · exact e_tup (I.A _ _ h).1
    · exact ff h
  | lst es =>
    unfold ckE at h
    dsimp only at h
    split at h
    · exact e_lst (I.A _ _ h).1
    · exact ff h
  | lstC es =>
    unfold ckE at h
    dsimp only at h
    split at h
    · exact e_lstC (I.A _ _ h).1
    · exact ff h
  | call f es =>
    unfold ckE at h
    dsimp only at h
    split at h
    · obtain ⟨hcm, h⟩ := b2 h
      obtain ⟨h1, h⟩ := b2 h
      obtain ⟨h2, h3⟩ := b2 h
      obtain ⟨h4, h5⟩ := b2 h2
      obtain ⟨fi, e1, e2⟩ := opt_dec h1
      obtain ⟨a1, a2, a3⟩ := I.A _ _ h3
      exact e_callO O hcm e1 (of_decide_eq_true e2) h4 h5 a2 a1 a3
    · obtain ⟨hcm, h⟩ := b2 h
      obtain ⟨h1, h⟩ := b2 h
      obtain ⟨h2, h3⟩ := b2 h
      obtain ⟨h4, h5⟩ := b2 h2
      obtain ⟨h6, h7⟩ := b2 h3
      obtain ⟨h8, h9⟩ := b2 h6
      obtain ⟨c, _, hc⟩ := List.any_eq_true.mp h1
      obtain ⟨c1, c2⟩ := b2 hc
      obtain ⟨ci, e1, e2⟩ := opt_dec c2
      obtain ⟨a1, a2, a3⟩ := I.A _ _ h7
      exact e_smethO O hcm e1 (of_decide_eq_true c1) (of_decide_eq_true e2) h4 h5 a2 h8 h9 a1 a3
    · exact ff h
  | callK j es ks =>
    unfold ckE at h
    dsimp only at h
    split at h
    · obtain ⟨hcm, h⟩ := b2 h
      obtain ⟨h1, h⟩ := b2 h
      obtain ⟨h2, h3⟩ := b2 h
      obtain ⟨h4, h5⟩ := b2 h2
      obtain ⟨h6, h7⟩ := b2 h3
      obtain ⟨sh, e1, e2⟩ := opt_dec h1
      obtain ⟨e2, e3⟩ := b2 e2
      obtain ⟨fi, e4, e5⟩ := opt_dec e2
      obtain ⟨a1, a2, a3⟩ := I.A _ _ h6
      exact e_callKO O hcm e1 e4 (of_decide_eq_true e5) h4 h5 a2 e3 a1 a3 (I.K _ _ h7)
    · exact ff h
  | mk c es =>
    unfold ckE at h
    dsimp only at h
    split at h
    · obtain ⟨hcm, h⟩ := b2 h
      obtain ⟨h1, h⟩ := b2 h
      obtain ⟨h0, h⟩ := b2 h
      obtain ⟨h2, h3⟩ := b2 h
      obtain ⟨h4, h5⟩ := b2 h2
      obtain ⟨ci, e1, e2⟩ := opt_dec h1
      obtain ⟨a1, a2, a3⟩ := I.A _ _ h3
      exact e_mkO O hcm e1 (of_decide_eq_true e2) h0 h4 h5 a2 a1 a3
    · exact ff h
  | mkC c es =>
    unfold ckE at h
    dsimp only at h
    split at h
    · obtain ⟨hcm, h⟩ := b2 h
      obtain ⟨h1, h⟩ := b2 h
      obtain ⟨h0, h⟩ := b2 h
      obtain ⟨h2, h3⟩ := b2 h
      obtain ⟨h4, h5⟩ := b2 h2
      obtain ⟨ci, e1, e2⟩ := opt_dec h1
      obtain ⟨a1, a2, a3⟩ := I.A _ _ h3
      exact e_mkO O hcm e1 (of_decide_eq_true e2) h0 h4 h5 a2 a1 a3
    · exact ff h
  | mkK j c es ks =>
    unfold ckE at h
    dsimp only at h
    split at h
    · obtain ⟨hcm, h⟩ := b2 h
      obtain ⟨h1, h⟩ := b2 h
      obtain ⟨h0, h⟩ := b2 h
      obtain ⟨h2, h3⟩ := b2 h
      obtain ⟨h4, h5⟩ := b2 h2
      obtain ⟨h6, h7⟩ := b2 h3
      obtain ⟨ci, e1, e2⟩ := opt_dec h1
      obtain ⟨sh, e3, e4⟩ := opt_dec h0
      obtain ⟨e4, e5⟩ := b2 e4
      obtain ⟨e4, e6⟩ := b2 e4
      obtain ⟨e6, e7⟩ := b2 e6
      obtain ⟨fi, e8⟩ := Option.isSome_iff_exists.mp e4
      have e9 := of_decide_eq_true e7
      obtain ⟨a1, a2, a3⟩ := I.A _ _ h6
      exact e_mkKO O hcm (n := sh.n - 1) e1 (of_decide_eq_true e2) e3 e8 (of_decide_eq_true e6) (by omega) h4 h5 a2 e5 a1 a3 (I.K _ _ h7)
    · exact ff h
  | meth m o es =>
    unfold ckE at h
    dsimp only at h
    split at h
    · obtain ⟨hcm, h⟩ := b2 h
      obtain ⟨h1, h⟩ := b2 h
      obtain ⟨h2, h3⟩ := b2 h
      obtain ⟨h4, h5⟩ := b2 h2
      obtain ⟨h6, h7⟩ := b2 h5
      obtain ⟨h8, h9⟩ := b2 h3
      cases of_decide_eq_true h1
      obtain ⟨a1, a2, a3⟩ := I.A _ _ h9
      exact e_methO O hcm (I.E _ _ h8) h4 a2 h6 h7 a1 a3
    · exact ff h
  | attr y o =>
    unfold ckE at h
    dsimp only at h
    split at h
    · obtain ⟨h1, h⟩ := b2 h
      obtain ⟨h2, h3⟩ := b2 h
      cases of_decide_eq_true h1
      exact e_attrO O (I.E _ _ h3) h2
    · exact ff h
  | ix a b =>
    unfold ckE at h
    dsimp only at h
    split at h
    · obtain ⟨h1, h⟩ := b2 h
      obtain ⟨h2, h3⟩ := b2 h
      exact e_ix (I.E _ _ h2) (I.E _ _ h3) (plainIx_of h1)
    · exact ff h
  | bi b es =>
    unfold ckE at h
    dsimp only at h
    split at h
    · rename_i y p l pos
      obtain ⟨hcm, h⟩ := b2 h
      obtain ⟨h1, h⟩ := b2 h
      obtain ⟨h2, h⟩ := b2 h
      obtain ⟨h3, h⟩ := b2 h
      obtain ⟨h4, h5⟩ := b2 h
      have e1 := of_decide_eq_true h1
      subst e1
      have fr := O.tb.fr _ (of_decide_eq_true h2)
      obtain ⟨a1, a2, a3⟩ := I.A _ _ h5
      obtain ⟨n1, n2, n3⟩ := okN_of (bi_name b)
      cases l with
      | nil => exact ff h4
      | cons e1 es1 =>
        obtain ⟨p1, p2⟩ := b2 (show (plainE e1 && plainL es1) = true from a2)
        have cg := og_bi O.tb (r1 hcm) (O.calm hcm) O.tk b
        have hb := bi_boot b
        cases b with
        | int => exact e_callTG cg (O.gl h3) fr hb a1 n3 n1 (star_plain p1) (star_any p2)
        | isinstance => exact e_callBG cg (O.gl h3) fr hb a1 n3 n1 (star_plain p1) (star_any p2)
        | len => exact e_callBG cg (O.gl h3) fr hb a1 n3 n1 (star_plain p1) (star_any p2)
        | abs => exact e_callBG cg (O.gl h3) fr hb a1 n3 n1 (star_plain p1) (star_any p2)
        | all => exact e_callBG cg (O.gl h3) fr hb a1 n3 n1 (star_plain p1) (star_any p2)
        | tuple => exact e_callTG cg (O.gl h3) fr hb a1 n3 n1 (star_plain p1) (star_any p2)
        | list => exact e_callTG cg (O.gl h3) fr hb a1 n3 n1 (star_plain p1) (star_any p2)
        | listC => exact e_callTG cg (O.gl h3) fr hb a1 n3 n1 (star_plain p1) (star_any p2)
        | str => exact e_callTG cg (O.gl h3) fr hb a1 n3 n1 (star_plain p1) (star_any p2)
    · exact ff h
  | sl c a lo hi =>
    unfold ckE at h
    dsimp only at h
    split at h
    · obtain ⟨h1, h⟩ := b2 h
      obtain ⟨h2, h3⟩ := b2 h
      exact e_slO (I.E _ _ h1) (I.O _ _ h2) (I.O _ _ h3)
    · exact ff h
  | bm m o es =>
    unfold ckE at h
    dsimp only at h
    split at h
    · rename_i eo m' apos l pos
      obtain ⟨h1, h⟩ := b2 h
      obtain ⟨h2, h⟩ := b2 h
      obtain ⟨h3, h2⟩ := b2 h2
      obtain ⟨h4, h5⟩ := b2 h2
      obtain ⟨h6, h⟩ := b2 h
      obtain ⟨h7, h8⟩ := b2 h
      have e1 := of_decide_eq_true h1
      subst e1
      obtain ⟨a1, a2, _⟩ := I.A _ _ h8
      cases l with
      | nil => exact ff h6
      | cons e1 es1 => exact e_bm m (I.E _ _ h7) a1 h3 a2 h4 h5
    · exact ff h
  | dnew =>
    unfold ckE at h
    dsimp only at h
    split at h
    · exact e_dnew
    · exact ff h
  | fz a =>
    exact e_fz (I.E e a (by unfold ckE at h; dsimp only at h; exact h))
  | comp own t it c e' =>
    unfold ckE at h
    dsimp only at h
    split at h
    · rename_i elt tg iter ifs scope pos
      obtain ⟨hcm, h⟩ := b2 h
      obtain ⟨h1, h⟩ := b2 h
      obtain ⟨h2, h3⟩ := b2 h1
      obtain ⟨h4, h⟩ := b2 h
      obtain ⟨h5, h⟩ := b2 h
      obtain ⟨h6, h⟩ := b2 h
      obtain ⟨h7, h8⟩ := b2 h
      have J := fun (s : Shared) (H : Hp) (c : Addr) (cl : List (Str × Addr)) (fp : List Addr) => A (X.blk s H scope (compEnvC scope cl c X.env) fp) G WNo { C with sc := relS scope C.sc } (xok_blk O hcm scope s H c cl fp)
      exact e_comp O hcm h2 (fun i hi => of_decide_eq_true (List.all_eq_true.mp h3 i hi)) (I.I tg _ _ h5)
        (fun s H c cl fp => snd_GB (C := { C with sc := relS scope C.sc }) (xok_blk O hcm scope s H c cl fp).hsc O.nm O.nd (O.calm hcm) h6)
        (fun s H c cl fp => (J s H c cl fp).C_ _ _ h7) (fun s H c cl fp => (J s H c cl fp).E _ _ h8) (folded_of h4)
    · exact ff h
  | eFld i x =>
    unfold ckE at h
    dsimp only at h
    split at h
    · obtain ⟨h1, h⟩ := b2 h
      obtain ⟨h2, h⟩ := b2 h
      obtain ⟨h3, h⟩ := b2 h
      obtain ⟨h4, h5⟩ := b2 h
      cases of_decide_eq_true h1
      exact e_eFld O (of_decide_eq_true h3) h4 h5
    · exact ff h
  | eIs i t =>
    unfold ckE at h
    dsimp only at h
    split at h
    · obtain ⟨h1, h⟩ := b2 h
      obtain ⟨h2, h⟩ := b2 h
      obtain ⟨h3, h⟩ := b2 h
      obtain ⟨h4, h⟩ := b2 h
      obtain ⟨h5, h⟩ := b2 h
      obtain ⟨h6, h7⟩ := b2 h
      obtain ⟨h8, h9⟩ := b2 h4
      obtain ⟨ha, hb⟩ := b2 h9
      obtain ⟨hc, hd⟩ := b2 hb
      have e1 := of_decide_eq_true h1
      subst e1
      exact e_eIs O (of_decide_eq_true ha) hc hd (of_decide_eq_true h2) h3 h7 h5 h6
    · exact ff h
theorem sndA : ∀ n, SndA fd k run n
  | 0 => fun _ _ _ _ _ => ⟨fun _ _ h => ff h, fun _ _ _ _ h => ff h, fun _ _ h => ff h, fun _ _ h => ff h, fun _ _ h => ff h, fun _ _ h => ff h, fun _ _ _ _ h => ff h, fun _ _ _ h => ff h, fun _ _ h => ff h⟩
  | n + 1 => fun X G W C O => ⟨snd_E O (sndA n), snd_BE O (sndA n X G W C O), snd_A O (sndA n X G W C O), snd_K O (sndA n X G W C O), snd_O O (sndA n X G W C O), snd_T O (sndA n X G W C O), snd_BT O (sndA n X G W C O), snd_I O (sndA n X G W C O), snd_C (sndA n X G W C O)⟩
theorem snd (O : XOk X G W C.S fd k run C.sc C.N C.cm C.ev) (n : Nat) : Snd X G W C run n := sndA n X G W C O
/-- a comprehension without what freezes it -/
def unFz : JE → JE
  | .fz a => a
  | a => a
def isFz : JE → Bool
  | .fz _ => true
  | _ => false
/-- name = a comprehension on one line -/
def ckLC (n : Nat) (C : Cf) (y : Str) (py : Pos) (e : Expr) (a : JE) : Bool := match e with
  | .ListComp _ _ scope pos => decide (C.sc.kind = .function) && (decide (C.sc.names.lookup y = some .local) && ((py.line == pos.line) && (!(scope.names.any fun (n, k) => n == y && (k == .local || k == .cell)) && (match unFz a with
    | .comp .. => ckE n C e (unFz a)
    | _ => false))))
  | _ => false
theorem snd_LC (O : XOk X G W C.S fd k run C.sc C.N C.cm C.ev) {i : Nat} {y : Str} {py spos : Pos} {e : Expr} {a : JE} (hi : C.N[i]? = some y) (h : ckLC n C y py e a = true) : S3 X G W (.Assign [.Name y py] e spos) (sSet i (semE C.S run a)) := by
  unfold ckLC at h
  split at h
  · rename_i elt gs scope pos
    obtain ⟨k1, h⟩ := b2 h
    obtain ⟨k2, h⟩ := b2 h
    obtain ⟨k3, h⟩ := b2 h
    obtain ⟨k4, h⟩ := b2 h
    split at h
    · rename_i own t it c x e1
      rw [e1] at h
      cases n with
      | zero => exact ff h
      | succ n =>
        unfold ckE at h
        dsimp only at h
        split at h
        · rename_i elt' tg iter ifs scope' pos' e2
          cases e2
          obtain ⟨hcm, h⟩ := b2 h
          obtain ⟨h1, h⟩ := b2 h
          obtain ⟨h2, h3⟩ := b2 h1
          obtain ⟨h4, h⟩ := b2 h
          obtain ⟨h5, h⟩ := b2 h
          obtain ⟨h6, h⟩ := b2 h
          obtain ⟨h7, h8⟩ := b2 h
          have J := fun (s : Shared) (H : Hp) (c : Addr) (cl : List (Str × Addr)) (fp : List Addr) => sndA (fd := fd) (k := k) (run := run) n (X.blk s H scope (compEnvC scope cl c X.env) fp) G WNo { C with sc := relS scope C.sc } (xok_blk O hcm scope s H c cl fp)
          have fx : ∀ σ H Q, tE X.K G W (semE C.S run a) σ H Q → tE X.K G W (semE C.S run (.comp own t it c x)) σ H Q := by
            rw [← e1]
            cases a with
            | fz a => exact fz_read
            | _ => exact fun _ _ _ h => h
          exact s_comp O hcm h2 (fun i hi => of_decide_eq_true (List.all_eq_true.mp h3 i hi)) ((snd O n).I tg _ _ h5) hi k2 (of_decide_eq_true k1) k3 (bn k4)
            (fun s H c cl fp => snd_GB (C := { C with sc := relS scope C.sc }) (xok_blk O hcm scope s H c cl fp).hsc O.nm O.nd (O.calm hcm) h6)
            (fun s H c cl fp => (J s H c cl fp).C_ _ _ h7) (fun s H c cl fp => (J s H c cl fp).E _ _ h8) (folded_of h4) fx
        · exact ff h
    · exact ff h
  · exact ff h
end
end L3

set_option maxRecDepth 100000
set_option maxHeartbeats 4000000
/-! L4i: the check of statements, and that it is enough. -/
namespace L3
open PySem PySem.Spec PyProof.Rows L2
/-- no comprehension -/
def noComp : Expr → Bool
  | .ListComp .. => false
  | .SetComp .. => false
  | .DictComp .. => false
  | _ => true
theorem swaps_of {e : Expr} {t : Option Expr} {l : Nat} {env : Env} (h : noComp e = true) : swapsWith e t l env = pure false := by
  cases e <;> first | rfl | (simp [noComp] at h; done)
/-- a name that blocks within share: no swap -/
theorem swaps_cell {e : Expr} {y : Str} {py : Pos} {l : Nat} {env : Env} (h : env.scope.names.lookup y = some .cell) : swapsWith e (some (.Name y py)) l env = pure false := by
  have ky : env.kindOf y = some .cell := h
  have hk : (some NameKind.cell == some NameKind.local) = false := by decide
  cases e <;> first
    | rfl
    | (unfold swapsWith
       simp only [ky, hk, Bool.and_false, Bool.false_and])
theorem swapsSole_of {e t : Expr} {l : Nat} {env : Env} (h : noComp e = true) : swapsWithSole [t] e l env = pure false := swaps_of h
theorem assign_sub {o i : Expr} {pos : Pos} {env : Env} (h : notSlice i = true) : ∀ v, assign (.Subscript o i pos) env v = (do
    let ov ← holding [v] (eval o env)
    let iv ← holding [v, ov] (eval i env)
    standAt pos
    holding [v, ov, iv] (setItem ov iv v)
    release [v, ov, iv] []) := by
  intro v
  cases i <;> first | rfl | (simp [notSlice] at h; done)
def notTup : Expr → Bool
  | .Tuple .. => false
  | _ => true
theorem stores_of {e t : Expr} {env : Env} (h : notTup e = true) : swappedStores [t] e env = pure none := by
  cases e <;> first | (simp [notTup] at h; done) | (cases t <;> rfl)
theorem stores_sub {a b e : Expr} {p : Pos} {env : Env} : swappedStores [.Subscript a b p] e env = pure none := by
  cases e <;> rfl
/-- a, b = x, y on one line, not all of them folded -/
def parOk (sc : Scope) (x y : Str) (px py : Pos) (a b : Expr) : Bool :=
  decide (sc.names.lookup x = some .local) && (decide (sc.names.lookup y = some .local) && ((py.line == px.line) && (decide (x ≠ y) && ((plainE a && plainE b) && (!([a, b].all (foldedForSure 8)) && !([a, b].all (constantsAlone 8)))))))
theorem par_of {sc : Scope} {x y : Str} {px py pt : Pos} {kt k2 : Nat} {pt2 : Pos} {a b : Expr} {env : Env} (hs : env.scope = sc) (h : parOk sc x y px py a b = true) (hb : env.blockKind = .function) :
    swappedStores [.Tuple [.Name x px, .Name y py] kt pt] (.Tuple [a, b] k2 pt2) env = pure (some [x, y]) := by
  unfold parOk at h
  simp only [Bool.and_eq_true, decide_eq_true_eq, Bool.not_eq_true'] at h
  obtain ⟨h1, h2, h3, h4, ⟨h5, h6⟩, h7, h8⟩ := h
  subst hs
  have k1 : (env.kindOf x == some NameKind.local) = true := beq_iff_eq.mpr h1
  have k2 : (env.kindOf y == some NameKind.local) = true := beq_iff_eq.mpr h2
  have e0 : (!(([Expr.Name x px, Expr.Name y py] : List Expr).length == 2 || ([Expr.Name x px, Expr.Name y py] : List Expr).length == 3) || ([a, b] : List Expr).length != ([Expr.Name x px, Expr.Name y py] : List Expr).length || env.blockKind != .function) = false := by
    rw [hb]; rfl
  have hne : (y == x) = false := by simpa using fun e : y = x => h4 e.symm
  unfold swappedStores
  dsimp only
  rw [e0, if_neg Bool.false_ne_true]
  simp only [h7, h8, k1, k2, Expr.pos, h3, hne, List.filterMap_cons, List.filterMap_nil, List.head?_cons, Option.map_some, Option.getD_some, beq_self_eq_true, Bool.and_self, if_true, Bool.false_eq_true, if_false, List.length_cons, List.length_nil, List.eraseDups_cons, List.eraseDups_nil, List.filter_cons, List.filter_nil, Bool.not_false, bne_self_eq_false, Bool.or_self]
  split
  · rename_i hh
    exfalso
    rw [List.any_eq_true] at hh
    obtain ⟨z, hz, hs⟩ := hh
    have hz : z = a ∨ z = b := by simpa using hz
    have hp : plainE z = true := by rcases hz with e | e <;> rw [e] <;> assumption
    cases z <;> first | (simp [plainE] at hp; done) | (simp at hs; done)
  · rfl
/-! ### targets -/
def ckU (C : Cf) : List Expr → List Nat → Bool
  | [], [] => true
  | .Name y _ :: r, i :: is => (decide (C.N[i]? = some y) && locB C.sc y) && ckU C r is
  | _, _ => false
def ckG (C : Cf) (e : Expr) (t : Tg) : Bool := match t with
  | .one i => (match e with
    | .Name y _ => decide (C.N[i]? = some y) && locB C.sc y
    | _ => false)
  | .tup is => (match e with
    | .Tuple l _ _ => ckU C l is
    | _ => false)
section
variable {X : Cx} {G : Gx} {W : WX} {C : Cf} {fd : Nat → FuncData} {k : Nat} {run : Nat → List D → PM D} {n : Nat}
theorem snd_U (O : XOk X G W C.S fd k run C.sc C.N C.cm C.ev) (hfn : ∀ x, X.fn x = true ∨ C.sc.names.lookup x ≠ some .cell) : ∀ (l : List Expr) (is : List Nat), ckU C l is = true → U3 X l is ∧ (assignEach l X.env).length = is.length ∧ (assignEach l X.env).findIdx? (·.1) = none
  | [], [], _ => ⟨u_nil, rfl, rfl⟩
  | [], _ :: _, h => ff h
  | e :: r, [], h => by cases e <;> exact ff h
  | e :: r, i :: is, h => by
    cases e with
    | Name y p =>
      obtain ⟨h1, h2⟩ := b2 (show ((decide (C.N[i]? = some y) && locB C.sc y) && ckU C r is) = true from h)
      obtain ⟨h3, h4⟩ := b2 h1
      obtain ⟨u, l1, l2⟩ := snd_U O hfn r is h2
      refine ⟨u_cons O.nd u (by rw [O.nm]; exact of_decide_eq_true h3) (O.loc h4) (O.st hfn h4), ?_, ?_⟩
      · show (assignEach r X.env).length + 1 = is.length + 1
        rw [l1]
      · show List.findIdx? (fun x => x.1) ((false, assign (.Name y p) X.env) :: assignEach r X.env) = none
        rw [List.findIdx?_cons, l2]
        rfl
    | _ => exact ff h
theorem snd_G (O : XOk X G W C.S fd k run C.sc C.N C.cm C.ev) (hfn : ∀ x, X.fn x = true ∨ C.sc.names.lookup x ≠ some .cell) (hcm : C.cm = true) {e : Expr} {t : Tg} (h : ckG C e t = true) : G3 X e t := by
  cases t with
  | one i =>
    cases e with
    | Name y p =>
      obtain ⟨h3, h4⟩ := b2 (show (decide (C.N[i]? = some y) && locB C.sc y) = true from h)
      exact g_one O.nd (by rw [O.nm]; exact of_decide_eq_true h3) (O.loc h4) (O.st hfn h4)
    | _ => exact ff h
  | tup is =>
    cases e with
    | Tuple l kk p =>
      obtain ⟨u, l1, l2⟩ := snd_U O hfn l is h
      exact g_tup (O.calm hcm) u l1 l2
    | _ => exact ff h
end
/-! ### statements -/
mutual
def ckS : Nat → Cf → Stmt → JS → Bool
  | 0, _, _, _ => false
  | n + 1, C, st, x => match x with
    | .set i a => (match st with
      | .Assign [.Name y py] e _ => (decide (C.N[i]? = some y) && locB C.sc y) && (((noComp e || decide (C.sc.names.lookup y = some .cell)) && ckE n C e a) || ckLC n C y py e a)
      | _ => false)
    | .par i j a b => (match st with
      | .Assign [.Tuple [.Name y py, .Name z pz] _ _] (.Tuple [ea, eb] _ _) _ => C.cm && ((decide (C.N[i]? = some y) && decide (C.N[j]? = some z)) && (decide (i ≠ j) && (parOk C.sc y z py pz ea eb && (ckE n C ea a && ckE n C eb b))))
      | _ => false)
    | .unp is a => (match st with
      | .Assign [.Tuple l _ _] e _ => C.cm && (ckU C l is && ((noComp e && notTup e) && ckE n C e a))
      | _ => false)
    | .ret a => (match st with
      | .Return (some e) _ => ckE n C e a
      | _ => false)
    | .retN => (match st with
      | .Return none _ => true
      | _ => false)
    | .drop a => (match st with
      | .Expr e _ => noComp e && ckE n C e a
      | _ => false)
    | .ife c a b => (match st with
      | .If ec la lb _ => ckT n C ec c && (ckB n C la a && ckB n C lb b)
      | _ => false)
    | .wh c b => (match st with
      | .While ec lb [] _ => ckT n C ec c && ckB n C lb b
      | _ => false)
    | .fr t it b => (match st with
      | .For tg e lb [] _ => C.cm && (ckG C tg t && (notSet e && (ckI n C tg e it && ckB n C lb b)))
      | _ => false)
    | .brk => (match st with
      | .Break _ => true
      | _ => false)
    | .ct => (match st with
      | .Continue _ => true
      | _ => false)
    | .pass => (match st with
      | .Pass _ => true
      | .Expr (.Constant (.str _) _ _) _ => true
      | _ => false)
    | .never => true
    | .setIx o i a => (match st with
      | .Assign [.Subscript eo ei _] e _ => noComp e && (notSlice ei && (ckE n C e a && (ckE n C eo o && ckE n C ei i)))
      | _ => false)
    | .setAttr y o a => (match st with
      | .Assign [.Attribute eo y' _] e _ => decide (y' = y) && (noComp e && (ckE n C e a && ckE n C eo o))
      | _ => false)
    | .raise c es => (match st with
      | .Raise (some (.Call (.Name y _) (e :: l) [] _)) none _ => C.cm && ((C.S.xin c).isSome && (optB C.S.cs[c]? (fun ci => decide (ci.nm = y)) && ((glB C.sc y && okN y) && ckA n C (e :: l) es)))
      | _ => false)
    | .raise0 c => (match st with
      | .Raise (some (.Call (.Name y _) [] [] _)) none _ => C.cm && (C.S.x0 c && (optB C.S.cs[c]? (fun ci => decide (ci.nm = y)) && (glB C.sc y && okN y)))
      | _ => false)
    | .aug i o a => (match st with
      | .AugAssign (.Name y _) o' e _ => C.cm && ((decide (o' = o) && decide (o ∈ [Operator.Add, .Sub])) && ((decide (C.N[i]? = some y) && locB C.sc y) && ckE n C e a))
      | _ => false)
    | .tryA b c i h => (match st with
      | .Try lb [.ExceptHandler (some (.Name y _)) (some nm) (s0 :: lh) _] [] [] _ => C.cm && ((xnB C.S c y && (glB C.sc y && okN y)) && ((decide (C.N[i]? = some nm) && decide (C.sc.names.lookup nm = some .local)) && (ckB n C lb b && ckB n { C with cm := false, ev := some i } (s0 :: lh) h)))
      | _ => false)
    | .tryO b c h => (match st with
      | .Try lb [.ExceptHandler (some (.Name y _)) none (s0 :: lh) _] [] [] _ => C.cm && ((xnB C.S c y && (glB C.sc y && okN y)) && (ckB n C lb b && ckB n { C with cm := false } (s0 :: lh) h))
      | _ => false)
def ckB : Nat → Cf → List Stmt → JB → Bool
  | 0, _, _, _ => false
  | n + 1, C, l, x => match l, x with
    | [], .nil => true
    | s :: r, .cons a b => ckS n C s a && ckB n C r b
    | _, _ => false
end
structure SndS (X : Cx) (G : Gx) (W : WX) (C : Cf) (run : Nat → List D → PM D) (n : Nat) : Prop where
  S : ∀ st x, ckS n C st x = true → S3 X G W st (semS C.S run x)
  B : ∀ l x, ckB n C l x = true → B3 X G W l (semB C.S run x)
section
variable {X : Cx} {G : Gx} {W : WX} {C : Cf} {fd : Nat → FuncData} {k : Nat} {run : Nat → List D → PM D} {n : Nat}
theorem snd_B (O : XOk X G W C.S fd k run C.sc C.N C.cm C.ev) (J : SndS X G W C run n) : ∀ l x, ckB (n + 1) C l x = true → B3 X G W l (semB C.S run x) := by
  intro l x h
  cases l with
  | nil =>
    cases x with
    | nil => exact b_nil
    | cons a b => exact ff h
  | cons s r =>
    cases x with
    | nil => exact ff h
    | cons a b =>
      obtain ⟨h1, h2⟩ := b2 (show (ckS n C s a && ckB n C r b) = true from h)
      exact b_cons (J.S _ _ h1) (J.B _ _ h2)
/-- at every place -/
def SndAll (fd : Nat → FuncData) (k : Nat) (run : Nat → List D → PM D) (n : Nat) : Prop := ∀ (X : Cx) (G : Gx) (W : WX) (C : Cf), XOk X G W C.S fd k run C.sc C.N C.cm C.ev → X.env.blockKind = .function → (∀ x, X.fn x = true ∨ C.sc.names.lookup x ≠ some .cell) → (C.cm = true → X.stack = X.env :: X.outer ∧ X.env.frame = some X.env.locals) → SndS X G W C run n
theorem snd_S (O : XOk X G W C.S fd k run C.sc C.N C.cm C.ev) (hk : X.env.blockKind = .function) (hfn : ∀ x, X.fn x = true ∨ C.sc.names.lookup x ≠ some .cell) (hst : C.cm = true → X.stack = X.env :: X.outer ∧ X.env.frame = some X.env.locals) (A : SndAll fd k run n) : ∀ st x, ckS (n + 1) C st x = true → S3 X G W st (semS C.S run x) := by
  intro st x h
  have I := snd O n
  have J := A X G W C O hk hfn hst
  cases x with
  | set i a =>
    unfold ckS at h
    dsimp only at h
    split at h
    · obtain ⟨h1, h⟩ := b2 h
      obtain ⟨h2, h3⟩ := b2 h1
      rcases Bool.or_eq_true_iff.mp h with h | h
      case inr => exact snd_LC O (of_decide_eq_true h2) h
      obtain ⟨h4, h5⟩ := b2 h
      refine s_set O.nd (I.E _ _ h5) (by rw [O.nm]; exact of_decide_eq_true h2) (O.loc h3) ?_ (O.st hfn h3)
      rcases Bool.or_eq_true_iff.mp h4 with h4 | h4
      · exact swaps_of h4
      · exact swaps_cell (by rw [O.hsc]; exact of_decide_eq_true h4)
    · exact ff h
  | par i j a b =>
    unfold ckS at h
    dsimp only at h
    split at h
    · obtain ⟨hcm, h⟩ := b2 h
      obtain ⟨h1, h⟩ := b2 h
      obtain ⟨h2, h3⟩ := b2 h1
      obtain ⟨h4, h⟩ := b2 h
      obtain ⟨h5, h⟩ := b2 h
      obtain ⟨h6, h7⟩ := b2 h
      have hp := h5
      unfold parOk at hp
      obtain ⟨q1, hp⟩ := b2 hp
      obtain ⟨q2, hp⟩ := b2 hp
      obtain ⟨q3, hp⟩ := b2 hp
      obtain ⟨q4, hp⟩ := b2 hp
      obtain ⟨q5, _⟩ := b2 hp
      obtain ⟨q6, q7⟩ := b2 q5
      have e1 := of_decide_eq_true h2
      have e2 := of_decide_eq_true h3
      rw [← O.nm] at e1 e2
      refine s_par (O.calm hcm) O.nd (a_cons (I.E _ _ h6) (a_cons (I.E _ _ h7) a_nil (star_plain q7)) (star_plain q6)) e1 e2 (of_decide_eq_true h4) fun t ht => ?_
      exact ps_par (O.calm hcm) O.nd e1 e2 (of_decide_eq_true h4) (by rw [O.hsc]; exact of_decide_eq_true q1) (by rw [O.hsc]; exact of_decide_eq_true q2) ht (par_of O.hsc h5 hk) rfl
    · exact ff h
  | unp is a =>
    unfold ckS at h
    dsimp only at h
    split at h
    · obtain ⟨hcm, h⟩ := b2 h
      obtain ⟨h1, h⟩ := b2 h
      obtain ⟨h2, h3⟩ := b2 h
      obtain ⟨h4, h5⟩ := b2 h2
      obtain ⟨u, l1, l2⟩ := snd_U O hfn _ _ h1
      exact s_unp (O.calm hcm) (I.E _ _ h3) u l1 l2 (swapsSole_of h4) (stores_of h5) rfl
    · exact ff h
  | ret a =>
    unfold ckS at h
    dsimp only at h
    split at h
    · exact s_ret (I.E _ _ h)
    · exact ff h
  | retN =>
    unfold ckS at h
    dsimp only at h
    split at h
    · exact s_retN
    · exact ff h
  | drop a =>
    unfold ckS at h
    dsimp only at h
    split at h
    · obtain ⟨h1, h2⟩ := b2 h
      exact s_expr (I.E _ _ h2) (swaps_of h1)
    · exact ff h
  | ife c a b =>
    unfold ckS at h
    dsimp only at h
    split at h
    · obtain ⟨h1, h⟩ := b2 h
      obtain ⟨h2, h3⟩ := b2 h
      exact s_if (I.T _ _ h1) (J.B _ _ h2) (J.B _ _ h3)
    · exact ff h
  | wh c b =>
    unfold ckS at h
    dsimp only at h
    split at h
    · obtain ⟨h1, h2⟩ := b2 h
      exact s_while _ O.po (I.T _ _ h1) (J.B _ _ h2)
    · exact ff h
  | fr t it b =>
    unfold ckS at h
    dsimp only at h
    split at h
    · obtain ⟨hcm, h⟩ := b2 h
      obtain ⟨h1, h⟩ := b2 h
      obtain ⟨h0, h⟩ := b2 h
      obtain ⟨h2, h3⟩ := b2 h
      exact s_for O.po (O.calm hcm) (I.I _ _ _ h2) (snd_G O hfn hcm h1) (J.B _ _ h3) fun hi hg hb => ps_for O.po (O.calm hcm) hi hg hb (folded_of h0)
    · exact ff h
  | brk =>
    unfold ckS at h
    dsimp only at h
    split at h
    · exact s_brk
    · exact ff h
  | ct =>
    unfold ckS at h
    dsimp only at h
    split at h
    · exact s_ct
    · exact ff h
  | pass =>
    unfold ckS at h
    dsimp only at h
    split at h
    · exact s_pass
    · exact s_doc
    · exact ff h
  | never => exact s_never
  | setIx o i a =>
    unfold ckS at h
    dsimp only at h
    split at h
    · obtain ⟨h2, h⟩ := b2 h
      obtain ⟨h0, h⟩ := b2 h
      obtain ⟨h4, h⟩ := b2 h
      obtain ⟨h5, h6⟩ := b2 h
      exact s_setIx (I.E _ _ h4) (I.E _ _ h5) (I.E _ _ h6) fun he ho hi => ps_asg he (pg_sub ho hi set_list (assign_sub h0)) (swapsSole_of h2) stores_sub rfl
    · exact ff h
  | setAttr y o a =>
    unfold ckS at h
    dsimp only at h
    split at h
    · obtain ⟨h1, h⟩ := b2 h
      obtain ⟨h2, h⟩ := b2 h
      obtain ⟨h3, h4⟩ := b2 h
      cases of_decide_eq_true h1
      exact s_attrO O (I.E _ _ h3) (I.E _ _ h4) (swaps_of h2)
    · exact ff h
  | raise c es =>
    unfold ckS at h
    dsimp only at h
    split at h
    · obtain ⟨hcm, h⟩ := b2 h
      obtain ⟨h1, h⟩ := b2 h
      obtain ⟨h2, h⟩ := b2 h
      obtain ⟨h3, h4⟩ := b2 h
      obtain ⟨h5, h6⟩ := b2 h3
      obtain ⟨ci, e1, e2⟩ := opt_dec h2
      obtain ⟨j, e3⟩ := Option.isSome_iff_exists.mp h1
      obtain ⟨a1, a2, _⟩ := I.A _ _ h4
      exact s_raise O hcm e3 e1 (of_decide_eq_true e2) h5 h6 a2 a1
    · exact ff h
  | raise0 c =>
    unfold ckS at h
    dsimp only at h
    split at h
    · obtain ⟨hcm, h⟩ := b2 h
      obtain ⟨h1, h⟩ := b2 h
      obtain ⟨h2, h⟩ := b2 h
      obtain ⟨h5, h6⟩ := b2 h
      obtain ⟨ci, e1, e2⟩ := opt_dec h2
      exact s_raise0 O hcm h1 e1 (of_decide_eq_true e2) h5 h6
    · exact ff h
  | aug i o a =>
    unfold ckS at h
    dsimp only at h
    split at h
    · obtain ⟨hcm, h⟩ := b2 h
      obtain ⟨h1, h⟩ := b2 h
      obtain ⟨h2, h3⟩ := b2 h1
      obtain ⟨h4, h5⟩ := b2 h
      obtain ⟨h6, h7⟩ := b2 h4
      have e1 := of_decide_eq_true h2
      subst e1
      exact s_aug O hcm (by rw [O.nm]; exact of_decide_eq_true h6) (O.loc h7) (O.st hfn h7) (I.E _ _ h5) (of_decide_eq_true h3)
    · exact ff h
  | tryA b c i hd =>
    unfold ckS at h
    dsimp only at h
    split at h
    · obtain ⟨hcm, h⟩ := b2 h
      obtain ⟨h1, h⟩ := b2 h
      obtain ⟨h2, h3⟩ := b2 h1
      obtain ⟨h4, h5⟩ := b2 h3
      obtain ⟨h6, h⟩ := b2 h
      obtain ⟨h7, h8⟩ := b2 h6
      obtain ⟨h9, hh⟩ := b2 h
      refine s_tryA O hcm (hst hcm) (of_decide_eq_true h7) h8 (xn_names O h2 h4 h5) (fun W' pn xe t1 t2 => ?_) fun a oe cls d pn z1 z2 => ?_
      · exact (A (X.tr pn xe) G W' C ⟨O.tb, O.hsc, O.nm, O.nd, O.room, t1, O.calm, t2, O.ec, O.eq, fun i a cls dx e => by rw [O.ec hcm] at e; cases e⟩ hk hfn fun _ => hst hcm).B _ _ h9
      · refine (A (X.suite a ((a, oe) :: pn)) _ WNo { C with cm := false, ev := some i } ⟨O.tb.we, O.hsc, O.nm, O.nd, (fun z => by cases z), takes_no, (fun z => by cases z), PassesOwn.never, (fun z => by cases z), fun i' z' e => ?_, fun i' a' cls' dx' e => ?_⟩ hk hfn (fun z => by cases z)).B _ _ hh
        · have e' : some (i, a, cls, d) = some (i', z') := e
          cases e'
          rfl
        · have e' : some (i, a, cls, d) = some (i', a', cls', dx') := e
          cases e'
          exact ⟨X, oe, pn, rfl, z1, z2⟩
    · exact ff h
  | tryO b c hd =>
    unfold ckS at h
    dsimp only at h
    split at h
    · obtain ⟨hcm, h⟩ := b2 h
      obtain ⟨h1, h⟩ := b2 h
      obtain ⟨h2, h3⟩ := b2 h1
      obtain ⟨h4, h5⟩ := b2 h3
      obtain ⟨h9, hh⟩ := b2 h
      refine s_tryO O hcm (hst hcm) (xn_names O h2 h4 h5) (fun W' pn xe t1 t2 => ?_) fun a oe cls d pn z1 z2 => ?_
      · exact (A (X.tr pn xe) G W' C ⟨O.tb, O.hsc, O.nm, O.nd, O.room, t1, O.calm, t2, O.ec, O.eq, fun i a cls dx e => by rw [O.ec hcm] at e; cases e⟩ hk hfn fun _ => hst hcm).B _ _ h9
      · exact (A (X.suite a ((a, oe) :: pn)) G WNo { C with cm := false } ⟨O.tb, O.hsc, O.nm, O.nd, (fun z => by cases z), takes_no, (fun z => by cases z), PassesOwn.never, (fun z => by cases z), O.eq, fun i a cls dx e => by rw [O.ec hcm] at e; cases e⟩ hk hfn (fun z => by cases z)).B _ _ hh
    · exact ff h
theorem sndS : ∀ n, SndAll fd k run n
  | 0 => fun _ _ _ _ _ _ _ _ => ⟨fun _ _ h => ff h, fun _ _ h => ff h⟩
  | n + 1 => fun X G W C O hk hfn hst => ⟨snd_S O hk hfn hst (sndS n), snd_B O (sndS n X G W C O hk hfn hst)⟩
end
end L3

set_option maxRecDepth 100000
set_option maxHeartbeats 4000000
/-! L4j: from what the top leaves to the defs' meaning, any number of calls deep. -/
namespace L3
open PySem PySem.Spec PyProof.Rows L2
/-- static: an __init__ that stores its values as these fields -/
def xiF (fs : List Str) (fi : Fd) : Bool := match fi.ps with
  | self :: ps => decide (fi.N = self :: ps) && (decide (ps.length = fs.length) && (decide (fs.length ≤ 800) && (decide fs.Nodup && (!fs.isEmpty && (((self :: ps).all fun x => visB fi.d.scope x && okN x) && xiB self (self :: ps) 1 fs fi.d.body)))))
  | [] => false
/-- what the written part says of such a class -/
structure XcK (K : PySem.W.Frag) (G : Gx) (S : Sig) (c i : Nat) : Prop where
  oex : OexC K (G.cA c)
  xf : XfC K (G.cA c)
  exc : ExcC K (G.cA c)
  ini : PySem.W.findIn K (.ref (G.cA c)) "__init__" = some (some (.ref (G.gA i)))
  ty : PySem.W.typeIn K (.ref (G.gA i)) = some (.type "function")
  no : ∀ x, x ∈ S.xfN c → PySem.W.findIn K (.ref (G.cA c)) x = some none
theorem xi_of {P : Program} {w : World} {K : PySem.W.Frag} {mg : Str → Option Value} {base : Heap} {C f : Addr} {fs : List Str} {fi : Fd} {dvs : List V} {kws : List (Str × V)} {fd : FuncData} (T : OexC K C) (h : xiF fs fi = true) (F : FunD K fi.d.name fi.d.qual fi.d.params fi.d.body fi.d.scope dvs kws f fd)
    (Sc : FnScope fi.N fi.ps fi.d.scope) (no : ∀ x, x ∈ fs → PySem.W.findIn K (.ref C) x = some none) (k : Nat) : FnOk P w K mg base (L2.CX P w) (k + 1) f fd fi.ps (spXi C fs) ∧ fs.length ≤ 800 ∧ fs.Nodup := by
  unfold xiF at h
  split at h
  · rename_i self ps e
    obtain ⟨h1, h⟩ := b2 h
    obtain ⟨h2, h⟩ := b2 h
    obtain ⟨h3, h⟩ := b2 h
    obtain ⟨h4, h⟩ := b2 h
    obtain ⟨h5, h⟩ := b2 h
    obtain ⟨h6, h7⟩ := b2 h
    rw [of_decide_eq_true h1, e] at Sc
    rw [e]
    refine ⟨xi_fn F Sc T (of_decide_eq_true h2) (of_decide_eq_true h3) (fun z => by rw [z] at h5; cases h5) (fun x hx => ?_) no h7 k, of_decide_eq_true h3, of_decide_eq_true h4⟩
    obtain ⟨q1, q2⟩ := b2 (List.all_eq_true.mp h6 x hx)
    obtain ⟨o1, o2, _⟩ := okN_of q2
    refine ⟨?_, o1, o2⟩
    unfold visB at q1
    simp only [Bool.or_eq_true, decide_eq_true_eq] at q1
    exact q1
  · cases h
/-- what the top leaves, the defs' own parts not asked yet -/
structure Hd (K : PySem.W.Frag) (mg : Str → Option Value) (G : Gx) (S : Sig) (fd : Nat → FuncData) : Prop where
  gok : GOk K G
  fn : ∀ c, G.fN c = match S.cs[c]? with
    | some ci => ci.fl
    | none => []
  g0 : G.eA = none
  xn : ∀ c, G.xN c = S.xfN c
  xs : ∀ t u b, S.xsub t u = some b → PySem.W.exmOne K (xv G t) (xv G u) = some b ∧ PySem.W.kitOne K (xv G t) (xv G u) = some b
  xc : ∀ c i, S.xin c = some i → XcK K G S c i ∧ ∃ fi, S.fs[i]? = some fi ∧ xiF (S.xfN c) fi = true
  fun_ : ∀ (i : Nat) (fi : Fd), S.fs[i]? = some fi → ∃ dvs kws, FunD K fi.d.name fi.d.qual fi.d.params fi.d.body fi.d.scope dvs kws (G.gA i) (fd i)
  bn : ∀ (i : Nat) (fi : Fd), S.fs[i]? = some fi → Binds K (fd i) fi.ps []
  scp : ∀ (i : Nat) (fi : Fd), S.fs[i]? = some fi → FnScope fi.N fi.ps fi.d.scope
  ck : ∀ (i : Nat) (fi : Fd), S.fs[i]? = some fi → ∃ n, ckB n ⟨S, fi.d.scope, fi.N, true, none⟩ fi.d.body fi.body = true
  sh : ∀ (s : Nat) (sh : Sh) (fi : Fd), S.sh[s]? = some sh → S.fs[sh.f]? = some fi → ShOk K sh (fd sh.f) fi.ps fi.dds
  glf : ∀ (i : Nat) (fi : Fd), S.fs[i]? = some fi → fi.d.at_.2 = none → mg fi.d.at_.1 = some (.ref (G.gA i)) ∧ PySem.W.keepIn K (.ref (G.gA i)) = true
  glc : ∀ (c : Nat) (ci : Cd), S.cs[c]? = some ci → mg ci.nm = some (.ref (G.cA c))
  gcl : ∀ (c : Nat), c < S.cs.length → G.gA (1000 + c) = G.cA c
  ins : ∀ (c : Nat) (ci : Cd), S.cs[c]? = some ci → ci.pl = true → InsF K (G.cA c)
  mt : ∀ c m i, S.mi c m = some i → Meth K (G.cA c) m (G.gA i) ∧ m ∉ G.fN c ∧ Cls K (G.cA c)
  mkr : ∀ c i, S.mi c "__init__" = some i → Mk K (G.cA c) (G.gA i)
  opc : ∀ c, hasOps S c = true → OpC K (G.cA c)
  rop : ∀ c o, hasOps S c = true → o ∈ [Operator.Add, .Sub, .Mult, .FloorDiv, .Mod, .Pow] → ∃ rc, PySem.W.findIn K (.ref (G.cA c)) (dunderR o.info.2) = some rc ∧ (rc = none ∨ ∃ g : Addr, rc = some (.ref g))
  opi : ∀ o, o ∈ [Operator.Add, .Sub, .Mult, .FloorDiv, .Mod, .Pow] → OpI K o
  kit : ∀ t u, okT S t = true → okT S u = true → PySem.W.kitOne K (tval G t) (tval G u) = some (isiT t u)
  fr : ∀ x, x ∈ S.free → mg x = none
  con : ∀ (n : Nat) (x : Str) (d : D), S.ks[n]? = some (x, d) → ∃ u v, (mg x = some u ∨ (mg x = none ∧ bootBuiltins x = some u ∧ x ≠ "__name__")) ∧ RelV v u ∧ ∀ ι M, Rep K G ι M v d
  x0 : ∀ c, S.x0 c = true → PySem.W.excIn K (G.cA c) He.veBase "ValueError.__new__" = true ∧ PySem.W.keepIn K (.ref (G.cA c)) = true ∧ PySem.W.subIn K (.ref (G.cA c)) (.type "BaseException") = some true ∧ PySem.W.typeIn K (.ref (G.cA c)) = some (.type "type")
  sm : ∀ c m i, S.sm c m = some i → SmF K (G.cA c) m (G.gA i)
section
variable {P : Program} {w : World} {K : PySem.W.Frag} {mg : Str → Option Value} {base : Heap} {G : Gx} {S : Sig} {fd : Nat → FuncData}
theorem Hd.tb (h : Hd K mg G S fd) {k : Nat} {run : Nat → List D → PM D} (own : ∀ (i : Nat) (fi : Fd), S.fs[i]? = some fi → OwnK P w K mg base G k (G.gA i) fi.ps.length (run i) (fd i) fi.ps) (no : ∀ (i : Nat), S.fs[i]? = none → ∀ ds μ, run i ds μ = .stuck) :
    Tb P w K mg base G S fd k run := ⟨h.gok, h.fn, h.xn, h.xs, fun c i e => by
    obtain ⟨x, fi, e1, e2⟩ := h.xc c i e
    obtain ⟨dvs, kws, F⟩ := h.fun_ i fi e1
    obtain ⟨F1, F2, F3⟩ := xi_of (P := P) (w := w) (mg := mg) (base := base) x.oex e2 F (h.scp i fi e1) x.no k
    exact ⟨x.oex, x.xf, x.exc, x.ini, x.ty, x.no, F2, F3, fi.ps, h.bn i fi e1, F1⟩, own, no, h.sh, h.glf, h.glc, h.gcl, h.ins, h.mt, h.mkr, h.opc, h.rop, h.opi, h.kit, h.fr, h.con, h.x0, h.sm⟩
/-- every def keeps its meaning n calls deep -/
theorem Hd.all (h : Hd K mg G S fd) : ∀ n, Tb P w K mg base G S fd (3 * n) (runS S n)
  | 0 => h.tb (fun i fi e => ⟨fun _ _ _ => rfl, ⟨fun vs H Q E q => q.1, fun A outer s H args us vs Q E hr e0 hb hv ⟨_, ι, M, μ, ds, _, _, q⟩ => q.elim⟩, h.bn i fi e⟩) (fun _ _ _ _ => rfl)
  | n + 1 => h.tb (fun i fi e => ⟨runS_ar e, by
      obtain ⟨dvs, kws, F⟩ := h.fun_ i fi e
      obtain ⟨m, hc⟩ := h.ck i fi e
      have sc := h.scp i fi e
      have T := Hd.all h n
      have ok := fn3_of (P := P) (w := w) (mg := mg) (base := base) (G := G) (k := 3 * n + 2) F sc fun cdv A outer s H E hr =>
        (sndS (fd := fd) (k := 3 * n) (run := runS S n) m (cxOf (L2.CX P w) P w K mg base fi.N fi.d.qual fi.d.scope (G.gA i) cdv A outer s H E) G (WE0 E) ⟨S, fi.d.scope, fi.N, true, none⟩
          ⟨T, rfl, rfl, sc.nd, fun _ => hr, takes_of rfl rfl rfl rfl, fun _ => rfl, passes_of rfl, fun _ => h.g0, fun i z e => by (rw [h.g0] at e; cases e), fun i a cls dx e => by (rw [h.g0] at e; cases e)⟩ (by show (if fi.d.scope.kind.isAnnotationScope then ScopeKind.function else fi.d.scope.kind) = _; rw [sc.kind]; rfl) (fun _ => .inl rfl) fun _ => ⟨rfl, rfl⟩).B _ _ hc
      have e2 : runS S (n + 1) i = if fi.fz = true then fzF (fnR fi.N.length fi.ps.length (semB S (runS S n) fi.body)) else fnR fi.N.length fi.ps.length (semB S (runS S n) fi.body) := by
        unfold runS
        rw [e]
      rw [e2]
      cases fi.fz with
      | true => rw [if_pos rfl]; exact ok.imp sp3_fz
      | false => rw [if_neg (by decide)]; exact ok, h.bn i fi e⟩) (fun i e ds μ => by unfold runS; rw [e])
end
/-! ### the tables by the written part -/
/-- where a def stands: a global's, a method's, within a static method -/
def fAx (K : PySem.W.Frag) (fi : Fd) : Addr := if fi.st = true then He5.wf K (He.ga K fi.d.at_.1) "staticmethod" (fi.d.at_.2.getD "") else He.fAd K fi.d.at_
theorem fAx_no {K : PySem.W.Frag} {fi : Fd} (h : fi.st = false) : fAx K fi = He.fAd K fi.d.at_ := by
  unfold fAx
  rw [h, if_neg (by decide)]
def gx (S : Sig) (K : PySem.W.Frag) : Gx where
  cA := fun c => match S.cs[c]? with
    | some ci => He.ga K ci.nm
    | none => 0
  fN := fun c => match S.cs[c]? with
    | some ci => ci.fl
    | none => []
  gA := fun i => if 1000 ≤ i then (match S.cs[i - 1000]? with
    | some ci => He.ga K ci.nm
    | none => 0) else (match S.fs[i]? with
    | some fi => fAx K fi
    | none => 0)
  xN := S.xfN
/-- the object of an exception's class -/
def oexO (K : PySem.W.Frag) (C : Addr) : Bool := match K.lookup C with
  | some ⟨.type t, _, .cls ⟨_, _, .ref C' :: bm, _, _, true, _, _, _, _, false⟩, ⟨[_, _, _, _, some (.builtin n), _]⟩⟩ => decide (t = "type") && (decide (C' = C) && (decide (n = "ValueError.__new__") && PySem.HandSPX.refsVE bm))
  | _ => false
def oexB (K : PySem.W.Frag) (C : Addr) : Bool := oexO K C && (decide (PySem.W.findIn K (.ref C) "__setattr__" = some (some (.builtin "object.__setattr__"))) && (decide (PySem.W.subIn K (.ref C) (.type "BaseException") = some true) && (decide (PySem.W.typeIn K (.ref C) = some (.type "type")) && PySem.W.keepIn K (.ref C))))
theorem oexB_ok {K : PySem.W.Frag} {C : Addr} (h : oexB K C = true) : OexC K C := by
  obtain ⟨h1, h⟩ := b2 h
  obtain ⟨h2, h⟩ := b2 h
  obtain ⟨h3, h⟩ := b2 h
  obtain ⟨h4, h5⟩ := b2 h
  refine ⟨?_, of_decide_eq_true h2, of_decide_eq_true h3, of_decide_eq_true h4, h5⟩
  unfold oexO at h1
  split at h1
  · rename_i t dd nm bs C' bm N q sn sub ab col k0 k1 k2 k3 n k5 e
    obtain ⟨a1, h1⟩ := b2 h1
    obtain ⟨a2, h1⟩ := b2 h1
    obtain ⟨a3, a4⟩ := b2 h1
    cases of_decide_eq_true a1
    cases of_decide_eq_true a2
    cases of_decide_eq_true a3
    exact ⟨_, _, _, _, _, _, _, _, _, _, _, _, _, _, _, e, a4⟩
  · cases h1
def exaB (K : PySem.W.Frag) (D : Addr) : Bool := decide (PySem.W.findIn K (.ref D) "__getattribute__" = some (some (.builtin "BaseException.__getattribute__"))) && (decide (PySem.W.findIn K (.ref D) "__getattr__" = some none) && (decide (PySem.W.subIn K (.ref D) (.type "BaseException") = some true) && (PySem.W.hasDictIn K D &&
  (decide (PySem.W.findIn K (.ref D) "__class__" = some (some (.builtin "object.__class__"))) && (decide (PySem.W.specialIn K (.builtin "object.__class__") "__get__" = some (some (.builtin "getset_descriptor.__get__"))) &&
  (decide (PySem.W.takesIn K (.builtin "object.__class__") = some true) && decide (PySem.W.mroIn K D (.type "object") = some true)))))))
theorem exaB_ok {K : PySem.W.Frag} {D : Addr} (h : exaB K D = true) : ExcC K D ∧ XfC K D := by
  obtain ⟨h1, h⟩ := b2 h
  obtain ⟨h2, h⟩ := b2 h
  obtain ⟨h3, h⟩ := b2 h
  obtain ⟨h4, h⟩ := b2 h
  obtain ⟨h5, h⟩ := b2 h
  obtain ⟨h6, h⟩ := b2 h
  obtain ⟨h7, h8⟩ := b2 h
  exact ⟨⟨of_decide_eq_true h1, of_decide_eq_true h2, of_decide_eq_true h3, h4, of_decide_eq_true h5, of_decide_eq_true h6, of_decide_eq_true h7, of_decide_eq_true h8⟩, ⟨of_decide_eq_true h1, of_decide_eq_true h2, of_decide_eq_true h3, h4⟩⟩
def tysS (S : Sig) : List Ty := btys.map .b ++ (List.range S.cs.length).map .c
/-- static tests -/
def chkC (S : Sig) (ci : Cd) : Bool := decide ci.fl.Nodup && (decide (ci.fl.length ≤ 50) && ((ci.pl || (ci.fl.isEmpty && (ci.mt.isEmpty && !ci.ops))) && ci.mt.all fun p => (!ci.fl.contains p.1) && optB S.fs[p.2]? (fun fi => decide (fi.d.at_ = (ci.nm, some p.1)) && !fi.st)))
/-- static: an exception's class -/
def chkX (S : Sig) (ci : Cd) : Bool := !ci.exc || (!ci.xi.isSome || optB ci.xi fun i => optB S.fs[i]? fun fi => decide (fi.d.at_ = (ci.nm, some ("__init__" : Str))) && xiF ci.xf fi)
/-- static: its static methods -/
def chkM (S : Sig) (ci : Cd) : Bool := ci.sm.all fun p => optB S.fs[p.2]? fun fi => fi.st && decide (fi.d.at_ = (ci.nm, some p.1))
def chkS (S : Sig) : Bool := (decide (S.fs.length ≤ 1000) && S.fs.all fun fi => !fi.st || fi.d.at_.2.isSome) && S.cs.all fun ci => (chkC S ci && chkM S ci) && chkX S ci
def chkN (N ps : List Str) (sc : Scope) : Bool := decide (sc.kind = .function) && (!sc.isCoroutine && (!sc.isGenerator && (decide N.Nodup && (decide (N.take ps.length = ps) && ((ps.all fun x => locB sc x) && sc.names.all fun y => decide (y.2 ≠ .free))))))
theorem chkN_of {N ps : List Str} {sc : Scope} (h : chkN N ps sc = true) : FnScope N ps sc := by
  unfold chkN at h
  simp only [Bool.and_eq_true, decide_eq_true_eq, Bool.not_eq_true', List.all_eq_true] at h
  obtain ⟨h1, h2, h3, h4, h5, h6, h7⟩ := h
  exact ⟨h1, h2, h3, h4, h5, fun x hx => by
    have q := h6 x hx
    unfold locB at q
    simpa only [Bool.or_eq_true, decide_eq_true_eq] using q, h7⟩
def chkF (S : Sig) (n : Nat) (fi : Fd) : Bool := chkN fi.N fi.ps fi.d.scope && ckB n ⟨S, fi.d.scope, fi.N, true, none⟩ fi.d.body fi.body
/-- a value of the module, told by data -/
def conV (K : PySem.W.Frag) : Nat → Value → D → Bool
  | 0, _, _ => false
  | n + 1, v, d => match d, v with
    | .non, .none => true
    | .bl b, .bool c => decide (b = c)
    | .int i, .int j _ => decide (i = j)
    | .str a, .str b _ => decide (a = b)
    | .tup ds, .ref a => (match K.lookup a with
      | some ⟨.type t, _, .seq its _, _⟩ => decide (t = "tuple") && (decide (its.size ≤ 1000000) && (decide (its.toList.length = ds.length) && (its.toList.zip ds).all fun p => conV K n p.1 p.2))
      | _ => false)
    | _, _ => false
theorem zip_reps {K : PySem.W.Frag} {p : Value → D → Bool} (hp : ∀ v d, p v d = true → ∃ u, RelV u v ∧ ∀ G ι M, Rep K G ι M u d) : ∀ {vs : List Value} {ds : List D}, vs.length = ds.length → ((vs.zip ds).all fun q => p q.1 q.2) = true → ∃ us, Vals us vs ∧ ∀ G ι M, Reps K G ι M us ds
  | [], [], _, _ => ⟨[], .nil, fun _ _ _ => .nil⟩
  | v :: vs, d :: ds, l, h => by
    obtain ⟨h1, h2⟩ := b2 (show (p v d && ((vs.zip ds).all fun q => p q.1 q.2)) = true from h)
    obtain ⟨u, r1, r2⟩ := hp v d h1
    obtain ⟨us, k1, k2⟩ := zip_reps hp (by simpa using l) h2
    exact ⟨u :: us, .cons r1 k1, fun G ι M => .cons (r2 G ι M) (k2 G ι M)⟩
  | [], _ :: _, l, _ => by cases l
  | _ :: _, [], l, _ => by cases l
theorem conV_ok {K : PySem.W.Frag} : ∀ (n : Nat) (v : Value) (d : D), conV K n v d = true → ∃ u, RelV u v ∧ ∀ G ι M, Rep K G ι M u d
  | 0, _, _, h => by cases h
  | n + 1, v, d, h => by
    unfold conV at h
    split at h
    · exact ⟨.non, rfl, fun _ _ _ => .non⟩
    · cases of_decide_eq_true h
      exact ⟨.bl _, rfl, fun _ _ _ => .bl⟩
    · cases of_decide_eq_true h
      exact ⟨.int _, ⟨_, rfl⟩, fun _ _ _ => .int⟩
    · cases of_decide_eq_true h
      exact ⟨.str _, ⟨_, rfl⟩, fun _ _ _ => .str⟩
    · rename_i ds a
      split at h
      · rename_i t dd its m sl e
        obtain ⟨h1, h⟩ := b2 h
        obtain ⟨h2, h⟩ := b2 h
        obtain ⟨h3, h4⟩ := b2 h
        cases of_decide_eq_true h1
        obtain ⟨us, k1, k2⟩ := zip_reps (conV_ok n) (of_decide_eq_true h3) h4
        exact ⟨.ref a, rfl, fun G ι M => .tup (.inr ⟨_, its, m, e, rfl, rfl, line_of (of_decide_eq_true h2), k1⟩) (k2 G ι M)⟩
      · cases h
    · cases h
/-- a constant of the module -/
def conB (S : Sig) (K : PySem.W.Frag) (x : Str) (d : D) : Bool := match d with
  | .int i => (He.Fa.int x i).ok K
  | .str z => (He.Fa.str x z).ok K
  | .ty n => (He.Fa.free x).ok K && (decide (bootBuiltins x = some (.type n)) && !decide (x = "__name__"))
  | .fn n => if 1000 ≤ n then optB S.cs[n - 1000]? (fun ci => decide (ci.nm = x)) && (He.Fa.glo x).ok K else optB S.fs[n]? (fun fi => decide (fi.d.at_ = (x, none))) && (He.Fa.glo x).ok K
  | .tup ds => (match PySem.W.nsIn K mainGlobals x with
    | some (some v) => conV K 5 v (.tup ds)
    | _ => false)
  | _ => false
def ropB (K : PySem.W.Frag) (C : Addr) (o : Operator) : Bool := match PySem.W.findIn K (.ref C) (dunderR o.info.2) with
  | some none => true
  | some (some (.ref _)) => true
  | _ => false
theorem ropB_ok {K : PySem.W.Frag} {C : Addr} {o : Operator} (h : ropB K C o = true) : ∃ rc, PySem.W.findIn K (.ref C) (dunderR o.info.2) = some rc ∧ (rc = none ∨ ∃ g : Addr, rc = some (.ref g)) := by
  unfold ropB at h
  split at h
  · rename_i e; exact ⟨_, e, .inl rfl⟩
  · rename_i e; exact ⟨_, e, .inr ⟨_, rfl⟩⟩
  · cases h
def clsB (S : Sig) (K : PySem.W.Frag) (ci : Cd) : Bool := (He.Fa.glo ci.nm).ok K && (!ci.pl || ((He.Fa.cls ci.nm).ok K && (InsF.ok K (He.ga K ci.nm) && ((ci.fl.all fun f => (He.Fa.noat ci.nm f).ok K) && ((ci.mt.all fun p => (He.Fa.meth ci.nm p.1).ok K) &&
  ((!(ci.mt.lookup ("__init__" : Str)).isSome || (He.Fa.mkr ci.nm).ok K) && (!ci.ops || (OpC.ok K (He.ga K ci.nm) && binOps.all (ropB K (He.ga K ci.nm))))))))))
/-- an exception's class -/
def exc0B (K : PySem.W.Frag) (ci : Cd) : Bool := !(ci.exc && ci.x0) || (He.Fa.exc ci.nm).ok K
def smB (S : Sig) (K : PySem.W.Frag) (ci : Cd) : Bool := ci.sm.all fun p => PySem.W.readsIn K (He.ga K ci.nm) (.type "type") && (decide (PySem.W.specialIn K (.ref (He.ga K ci.nm)) "__getattribute__" = some (some (.builtin "type.__getattribute__"))) && (decide (PySem.W.typeIn K (.ref (He.ga K ci.nm)) = some (.type "type")) &&
  (He5.wrapB K (He.ga K ci.nm) "staticmethod" "staticmethod.__get__" p.1 && PySem.W.keepIn K (.ref (He5.wf K (He.ga K ci.nm) "staticmethod" p.1)))))
def excB (S : Sig) (K : PySem.W.Frag) (ci : Cd) : Bool := !ci.exc || (!ci.xi.isSome || optB ci.xi fun i => oexB K (He.ga K ci.nm) && (exaB K (He.ga K ci.nm) && (decide (PySem.W.findIn K (.ref (He.ga K ci.nm)) "__init__" = some (some (.ref ((gx S K).gA i)))) &&
  (decide (PySem.W.typeIn K (.ref ((gx S K).gA i)) = some (.type "function")) && ci.xf.all fun x => decide (PySem.W.findIn K (.ref (He.ga K ci.nm)) x = some none)))))
def xsB (S : Sig) (K : PySem.W.Frag) (t u : XC) : Bool := match S.xsub t u with
  | some b => decide (PySem.W.exmOne K (xv (gx S K) t) (xv (gx S K) u) = some b) && decide (PySem.W.kitOne K (xv (gx S K) t) (xv (gx S K) u) = some b)
  | none => true
def chkK (S : Sig) (K : PySem.W.Frag) : Bool := (S.cs.all (fun ci => excB S K ci && (exc0B K ci && smB S K ci)) && (List.range S.cs.length).all fun c => S.xt.all fun u => xsB S K (.own c) u) && ((S.fs.all fun fi => fi.d.at_.2.isSome || ((He.Fa.glo fi.d.at_.1).ok K && PySem.W.keepIn K (.ref (He.ga K fi.d.at_.1)))) && (S.cs.all (clsB S K) && (binOps.all (OpI.ok K) &&
  (((tysS S).all fun t => (tysS S).all fun u => !(okT S t && okT S u) || decide (PySem.W.kitOne K (tval (gx S K) t) (tval (gx S K) u) = some (isiT t u))) && ((S.free.all fun x => (He.Fa.free x).ok K) && S.ks.all fun p => conB S K p.1 p.2)))))
theorem lookup_mem {α : Type} {m : Str} {i : α} : ∀ {l : List (Str × α)}, l.lookup m = some i → (m, i) ∈ l
  | [], h => by cases h
  | (a, b) :: r, h => by
    unfold List.lookup at h
    split at h
    · rename_i e
      cases h
      rw [beq_iff_eq.mp e]
      exact List.mem_cons_self ..
    · exact List.mem_cons_of_mem _ (lookup_mem h)
theorem mem_at {α : Type} {l : List α} {i : Nat} {a : α} (h : l[i]? = some a) : a ∈ l := List.mem_of_getElem? h
theorem optB_of {α : Type} {o : Option α} {f : α → Bool} (h : optB o f = true) : ∃ a, o = some a ∧ f a = true := opt_dec h
theorem Sig.mi_at {S : Sig} {c : Nat} {m : Str} {i : Nat} (h : S.mi c m = some i) : ∃ ci, S.cs[c]? = some ci ∧ ci.mt.lookup m = some i := by
  unfold Sig.mi at h
  cases e : S.cs[c]? with
  | none => rw [e] at h; cases h
  | some ci => rw [e] at h; exact ⟨ci, rfl, h⟩
theorem okT_mem {S : Sig} {t : Ty} (h : okT S t = true) : t ∈ tysS S := by
  unfold tysS
  cases t with
  | b n =>
    have h2 : btys.contains n = true := h
    exact List.mem_append_left _ (List.mem_map_of_mem (by simpa using h2))
  | c n =>
    have h2 : (match S.cs[n]? with
      | some ci => ci.pl
      | none => false) = true := h
    cases e : S.cs[n]? with
    | none => rw [e] at h2; cases h2
    | some ci => exact List.mem_append_right _ (List.mem_map_of_mem (List.mem_range.mpr (List.getElem?_eq_some_iff.mp e).1))
section
variable {K : PySem.W.Frag} {mg : Str → Option Value} {h : Heap} {S : Sig} {fd : Nat → FuncData}
theorem gx_fn {i : Nat} {fi : Fd} (hs : chkS S = true) (e : S.fs[i]? = some fi) : (gx S K).gA i = fAx K fi := by
  have l := (List.getElem?_eq_some_iff.mp e).1
  have h1 := of_decide_eq_true (b2 (b2 hs).1).1
  show (if 1000 ≤ i then _ else _) = _
  rw [if_neg (by omega), e]
theorem gx_cls {c : Nat} {ci : Cd} (e : S.cs[c]? = some ci) : (gx S K).cA c = He.ga K ci.nm := by
  show (match S.cs[c]? with | some ci => He.ga K ci.nm | none => 0) = _
  rw [e]
theorem chkC_at (hs : chkS S = true) {c : Nat} {ci : Cd} (e : S.cs[c]? = some ci) : chkC S ci = true := (b2 (b2 (List.all_eq_true.mp (b2 hs).2 ci (mem_at e))).1).1
theorem chkM_at (hs : chkS S = true) {c : Nat} {ci : Cd} (e : S.cs[c]? = some ci) : chkM S ci = true := (b2 (b2 (List.all_eq_true.mp (b2 hs).2 ci (mem_at e))).1).2
theorem gx_glo {i : Nat} {fi : Fd} (hs : chkS S = true) (e : S.fs[i]? = some fi) (n : fi.d.at_.2 = none) : (gx S K).gA i = He.fAd K fi.d.at_ := by
  rw [gx_fn hs e]
  have q := List.all_eq_true.mp (b2 (b2 hs).1).2 fi (mem_at e)
  cases h : fi.st with
  | false => exact fAx_no h
  | true =>
    rw [h, n] at q
    cases q
theorem chkX_at (hs : chkS S = true) {c : Nat} {ci : Cd} (e : S.cs[c]? = some ci) : chkX S ci = true := (b2 (List.all_eq_true.mp (b2 hs).2 ci (mem_at e))).2
theorem mt_at (hs : chkS S = true) {c i : Nat} {m : Str} (hm : S.mi c m = some i) : ∃ ci fi, S.cs[c]? = some ci ∧ S.fs[i]? = some fi ∧ fi.d.at_ = (ci.nm, some m) ∧ m ∉ ci.fl ∧ ci.pl = true ∧ (m, i) ∈ ci.mt ∧ ci.mt.lookup m = some i ∧ fi.st = false := by
  obtain ⟨ci, e, l⟩ := Sig.mi_at hm
  have mem := lookup_mem l
  obtain ⟨_, q⟩ := b2 (chkC_at hs e)
  obtain ⟨_, q⟩ := b2 q
  obtain ⟨q1, q2⟩ := b2 q
  obtain ⟨q3, q4⟩ := b2 (List.all_eq_true.mp q2 _ mem)
  obtain ⟨fi, e2, e3⟩ := optB_of q4
  obtain ⟨e3, e4⟩ := b2 e3
  refine ⟨ci, fi, e, e2, of_decide_eq_true e3, by simpa using q3, ?_, mem, l, by simpa using e4⟩
  cases hp : ci.pl with
  | true => rfl
  | false =>
    rw [hp] at q1
    obtain ⟨_, q5⟩ := b2 (show (ci.fl.isEmpty && (ci.mt.isEmpty && !ci.ops)) = true from q1)
    have z := (b2 q5).1
    rw [List.isEmpty_iff] at z
    rw [z] at mem
    cases mem
theorem Hd.of (X : K.In h) (N : h.Ns mainGlobals mg) (hs : chkS S = true) (hk : chkK S K = true)
    (hf : ∀ (i : Nat) (fi : Fd), S.fs[i]? = some fi → ∃ dvs kws, FunD K fi.d.name fi.d.qual fi.d.params fi.d.body fi.d.scope dvs kws (fAx K fi) (fd i))
    (hb : ∀ (i : Nat) (fi : Fd), S.fs[i]? = some fi → Binds K (fd i) fi.ps [])
    (hc : ∀ (i : Nat) (fi : Fd), S.fs[i]? = some fi → ∃ n, chkF S n fi = true)
    (hsh : ∀ (s : Nat) (sh : Sh) (fi : Fd), S.sh[s]? = some sh → S.fs[sh.f]? = some fi → ShOk K sh (fd sh.f) fi.ps fi.dds) : Hd K mg (gx S K) S fd := by
  obtain ⟨kx, hk⟩ := b2 hk
  obtain ⟨kx1, kx2⟩ := b2 kx
  obtain ⟨k1, hk⟩ := b2 hk
  obtain ⟨k2, hk⟩ := b2 hk
  obtain ⟨k3, hk⟩ := b2 hk
  obtain ⟨k4, hk⟩ := b2 hk
  obtain ⟨k5, k6⟩ := b2 hk
  have cl : ∀ {c : Nat} {ci : Cd}, S.cs[c]? = some ci → clsB S K ci = true := fun e => List.all_eq_true.mp k2 _ (mem_at e)
  have pl : ∀ {c : Nat} {ci : Cd}, S.cs[c]? = some ci → ci.pl = true → ((He.Fa.cls ci.nm).ok K && (InsF.ok K (He.ga K ci.nm) && ((ci.fl.all fun f => (He.Fa.noat ci.nm f).ok K) && ((ci.mt.all fun p => (He.Fa.meth ci.nm p.1).ok K) &&
      ((!(ci.mt.lookup ("__init__" : Str)).isSome || (He.Fa.mkr ci.nm).ok K) && (!ci.ops || (OpC.ok K (He.ga K ci.nm) && binOps.all (ropB K (He.ga K ci.nm))))))))) = true := fun {c ci} e p => by
    have q := (b2 (cl e)).2
    rw [p] at q
    exact q
  have clsF : ∀ {c : Nat} {ci : Cd}, S.cs[c]? = some ci → ci.pl = true → Cls K ((gx S K).cA c) := fun e p => by rw [gx_cls e]; exact He.cls_ok (b2 (pl e p)).1
  have flne : ∀ {c : Nat}, (gx S K).fN c ≠ [] → ∃ ci, S.cs[c]? = some ci ∧ ci.pl = true ∧ (gx S K).fN c = ci.fl := fun {c} ne => by
    have e0 : (gx S K).fN c = match S.cs[c]? with
      | some ci => ci.fl
      | none => [] := rfl
    cases e : S.cs[c]? with
    | none => rw [e] at e0; exact absurd e0 ne
    | some ci =>
      rw [e] at e0
      refine ⟨ci, rfl, ?_, e0⟩
      cases p : ci.pl with
      | true => rfl
      | false =>
        obtain ⟨_, q⟩ := b2 (chkC_at hs e)
        obtain ⟨_, q⟩ := b2 q
        have q1 := (b2 q).1
        rw [p] at q1
        have z := (b2 (show (ci.fl.isEmpty && (ci.mt.isEmpty && !ci.ops)) = true from q1)).1
        rw [List.isEmpty_iff] at z
        exact absurd (e0.trans z) ne
  refine ⟨⟨fun c => ?_, fun c ne => ?_, fun c j x e => ?_, fun c => ?_⟩, fun _ => rfl, rfl, fun _ => rfl, fun t u b e => ?_, fun c i e => ?_, fun i fi e => ?_, hb, fun i fi e => ?_, fun i fi e => ?_, hsh, fun i fi e n => ?_, fun c ci e => ?_, fun c l => ?_, fun c ci e p => ?_, fun c m i e => ?_, fun c i e => ?_, fun c e => ?_, fun c o e ho => ?_, fun o e => ?_, fun t u h1 h2 => ?_, fun x e => ?_, fun n x d e => ?_, fun c e => ?_, fun c m i e => ?_⟩
  · show (match S.cs[c]? with | some ci => ci.fl | none => []).Nodup
    cases e : S.cs[c]? with
    | none => exact List.nodup_nil
    | some ci => exact of_decide_eq_true (b2 (chkC_at hs e)).1
  · obtain ⟨ci, e, p, _⟩ := flne ne
    exact clsF e p
  · have ne : (gx S K).fN c ≠ [] := fun z => by rw [z] at e; cases e
    obtain ⟨ci, e1, p, e2⟩ := flne ne
    rw [e2] at e
    obtain ⟨_, q⟩ := b2 (pl e1 p)
    obtain ⟨_, q⟩ := b2 q
    have q1 := List.all_eq_true.mp (b2 q).1 x (mem_at e)
    rw [gx_cls e1]
    exact He.noat_ok q1
  · show (match S.cs[c]? with | some ci => ci.fl | none => []).length ≤ 50
    cases e : S.cs[c]? with
    | none => exact Nat.zero_le _
    | some ci => exact of_decide_eq_true (b2 (b2 (chkC_at hs e)).2).1
  · cases t with
    | ty n => cases e
    | own c =>
      have e0 := e
      unfold Sig.xsub at e0
      dsimp only at e0
      cases e1 : S.cs[c]? with
      | none => rw [e1] at e0; cases e0
      | some ci =>
        rw [e1] at e0
        dsimp only at e0
        split at e0
        · split at e0
          · rename_i hu
            have q := List.all_eq_true.mp (List.all_eq_true.mp kx2 c (List.mem_range.mpr (List.getElem?_eq_some_iff.mp e1).1)) u (by simpa using hu)
            unfold xsB at q
            rw [e] at q
            obtain ⟨q1, q2⟩ := b2 q
            exact ⟨of_decide_eq_true q1, of_decide_eq_true q2⟩
          · cases e0
        · cases e0
  · have e0 := e
    unfold Sig.xin at e0
    cases e1 : S.cs[c]? with
    | none => rw [e1] at e0; cases e0
    | some ci =>
      rw [e1] at e0
      dsimp only at e0
      split at e0
      · rename_i hx
        have q := chkX_at hs e1
        unfold chkX at q
        rw [hx, e0] at q
        have q : optB S.fs[i]? (fun fi => decide (fi.d.at_ = (ci.nm, some ("__init__" : Str))) && xiF ci.xf fi) = true := q
        obtain ⟨fi, e2, q2⟩ := optB_of q
        have k := (b2 (List.all_eq_true.mp kx1 ci (mem_at e1))).1
        unfold excB at k
        rw [hx, e0] at k
        obtain ⟨a1, k⟩ := b2 (show (oexB K (He.ga K ci.nm) && (exaB K (He.ga K ci.nm) && (decide (PySem.W.findIn K (.ref (He.ga K ci.nm)) "__init__" = some (some (.ref ((gx S K).gA i)))) &&
          (decide (PySem.W.typeIn K (.ref ((gx S K).gA i)) = some (.type "function")) && ci.xf.all fun x => decide (PySem.W.findIn K (.ref (He.ga K ci.nm)) x = some none))))) = true from k)
        obtain ⟨a2, k⟩ := b2 k
        obtain ⟨a3, k⟩ := b2 k
        obtain ⟨a4, a5⟩ := b2 k
        have xf : S.xfN c = ci.xf := by unfold Sig.xfN; rw [e1]
        refine ⟨⟨?_, ?_, ?_, ?_, of_decide_eq_true a4, fun x h => ?_⟩, fi, e2, by rw [xf]; exact (b2 q2).2⟩
        · rw [gx_cls e1]; exact oexB_ok a1
        · rw [gx_cls e1]; exact (exaB_ok a2).2
        · rw [gx_cls e1]; exact (exaB_ok a2).1
        · rw [gx_cls e1]; exact of_decide_eq_true a3
        · rw [gx_cls e1]
          rw [xf] at h
          exact of_decide_eq_true (List.all_eq_true.mp a5 x h)
      · cases e0
  · rw [gx_fn hs e]
    exact hf i fi e
  · obtain ⟨n, q⟩ := hc i fi e
    exact chkN_of (b2 q).1
  · obtain ⟨n, q⟩ := hc i fi e
    exact ⟨n, (b2 q).2⟩
  · have q := List.all_eq_true.mp k1 fi (mem_at e)
    rw [n] at q
    obtain ⟨q1, q2⟩ := b2 (show ((He.Fa.glo fi.d.at_.1).ok K && PySem.W.keepIn K (.ref (He.ga K fi.d.at_.1))) = true from q)
    have ea : (gx S K).gA i = He.ga K fi.d.at_.1 := by
      rw [gx_glo hs e n]
      unfold He.fAd
      rw [n]
    rw [ea]
    exact ⟨He.glo_ok X N q1, q2⟩
  · rw [gx_cls e]
    exact He.glo_ok X N (b2 (cl e)).1
  · show (if 1000 ≤ 1000 + c then (match S.cs[1000 + c - 1000]? with | some ci => He.ga K ci.nm | none => 0) else _) = (match S.cs[c]? with | some ci => He.ga K ci.nm | none => 0)
    rw [if_pos (by omega), Nat.add_sub_cancel_left]
  · have q := (b2 (b2 (pl e p)).2).1
    rw [gx_cls e]
    exact InsF.of (gx_cls (K := K) e ▸ clsF e p) q
  · obtain ⟨ci, fi, e1, e2, e3, e4, p, mem, _, ns⟩ := mt_at hs e
    obtain ⟨_, q⟩ := b2 (pl e1 p)
    obtain ⟨_, q⟩ := b2 q
    obtain ⟨_, q⟩ := b2 q
    have q1 := List.all_eq_true.mp (b2 q).1 _ mem
    have mm := He.meth_ok q1
    have ea : (gx S K).gA i = He.ma K (He.ga K ci.nm) m := by
      rw [gx_fn hs e2, fAx_no ns, e3]
      rfl
    refine ⟨by rw [ea, gx_cls e1]; exact mm, ?_, clsF e1 p⟩
    show m ∉ (match S.cs[c]? with | some ci => ci.fl | none => [])
    rw [e1]
    exact e4
  · obtain ⟨ci, fi, e1, e2, e3, e4, p, mem, lk, ns⟩ := mt_at hs e
    obtain ⟨_, q⟩ := b2 (pl e1 p)
    obtain ⟨_, q⟩ := b2 q
    obtain ⟨_, q⟩ := b2 q
    obtain ⟨_, q⟩ := b2 q
    have q1 := (b2 q).1
    rw [lk] at q1
    have mm := He.mkr_ok (show (He.Fa.mkr ci.nm).ok K = true from q1)
    have ea : (gx S K).gA i = He.ma K (He.ga K ci.nm) "__init__" := by
      rw [gx_fn hs e2, fAx_no ns, e3]
      rfl
    rw [ea, gx_cls e1]
    exact mm
  · have e0 : (match S.cs[c]? with
      | some ci => ci.ops
      | none => false) = true := e
    cases e1 : S.cs[c]? with
    | none => rw [e1] at e0; cases e0
    | some ci =>
      rw [e1] at e0
      have p : ci.pl = true := by
        cases hp : ci.pl with
        | true => rfl
        | false =>
          obtain ⟨_, q⟩ := b2 (chkC_at hs e1)
          obtain ⟨_, q⟩ := b2 q
          have q1 := (b2 q).1
          rw [hp] at q1
          have z := (b2 (b2 (show (ci.fl.isEmpty && (ci.mt.isEmpty && !ci.ops)) = true from q1)).2).2
          rw [show ci.ops = true from e0] at z
          cases z
      obtain ⟨_, q⟩ := b2 (pl e1 p)
      obtain ⟨_, q⟩ := b2 q
      obtain ⟨_, q⟩ := b2 q
      obtain ⟨_, q⟩ := b2 q
      have q1 := (b2 q).2
      rw [show ci.ops = true from e0] at q1
      rw [gx_cls e1]
      exact OpC.of (b2 q1).1
  · have e0 : (match S.cs[c]? with
      | some ci => ci.ops
      | none => false) = true := e
    cases e1 : S.cs[c]? with
    | none => rw [e1] at e0; cases e0
    | some ci =>
      rw [e1] at e0
      have p : ci.pl = true := by
        cases hp : ci.pl with
        | true => rfl
        | false =>
          obtain ⟨_, q⟩ := b2 (chkC_at hs e1)
          obtain ⟨_, q⟩ := b2 q
          have q1 := (b2 q).1
          rw [hp] at q1
          have z := (b2 (b2 (show (ci.fl.isEmpty && (ci.mt.isEmpty && !ci.ops)) = true from q1)).2).2
          rw [show ci.ops = true from e0] at z
          cases z
      obtain ⟨_, q⟩ := b2 (pl e1 p)
      obtain ⟨_, q⟩ := b2 q
      obtain ⟨_, q⟩ := b2 q
      obtain ⟨_, q⟩ := b2 q
      have q1 := (b2 q).2
      rw [show ci.ops = true from e0] at q1
      rw [gx_cls e1]
      exact ropB_ok (List.all_eq_true.mp (b2 q1).2 o ho)
  · exact OpI.of (List.all_eq_true.mp k3 o e)
  · have q := List.all_eq_true.mp (List.all_eq_true.mp k4 t (okT_mem h1)) u (okT_mem h2)
    rw [h1, h2] at q
    exact of_decide_eq_true q
  · exact He.free_ok X N (List.all_eq_true.mp k5 x e)
  · have q : conB S K x d = true := List.all_eq_true.mp k6 (x, d) (mem_at e)
    cases d with
    | int i =>
      obtain ⟨t, hm⟩ := He.int_ok X N (show (He.Fa.int x i).ok K = true from q)
      exact ⟨_, .int i, .inl hm, ⟨t, rfl⟩, fun _ _ => .int⟩
    | str z =>
      obtain ⟨t, hm⟩ := He.str_ok X N (show (He.Fa.str x z).ok K = true from q)
      exact ⟨_, .str z, .inl hm, ⟨t, rfl⟩, fun _ _ => .str⟩
    | ty n =>
      obtain ⟨q1, q2⟩ := b2 (show ((He.Fa.free x).ok K && (decide (bootBuiltins x = some (.type n)) && !decide (x = "__name__"))) = true from q)
      obtain ⟨q2, q3⟩ := b2 q2
      exact ⟨_, .ty n, .inr ⟨He.free_ok X N q1, of_decide_eq_true q2, of_decide_eq_false (L3.bn q3)⟩, rfl, fun _ _ => .ty⟩
    | fn n =>
      have q0 : (if 1000 ≤ n then optB S.cs[n - 1000]? (fun ci => decide (ci.nm = x)) && (He.Fa.glo x).ok K else optB S.fs[n]? (fun fi => decide (fi.d.at_ = (x, none))) && (He.Fa.glo x).ok K) = true := q
      have ea : (gx S K).gA n = He.ga K x ∧ (He.Fa.glo x).ok K = true := by
        by_cases c : 1000 ≤ n
        · rw [if_pos c] at q0
          obtain ⟨q1, q2⟩ := b2 q0
          obtain ⟨ci, e1, e2⟩ := optB_of q1
          refine ⟨?_, q2⟩
          show (if 1000 ≤ n then (match S.cs[n - 1000]? with | some ci => He.ga K ci.nm | none => 0) else _) = _
          rw [if_pos c, e1]
          dsimp only
          rw [of_decide_eq_true e2]
        · rw [if_neg c] at q0
          obtain ⟨q1, q2⟩ := b2 q0
          obtain ⟨fi, e1, e2⟩ := optB_of q1
          refine ⟨?_, q2⟩
          rw [gx_glo hs e1 (by rw [of_decide_eq_true e2]), of_decide_eq_true e2]
          rfl
      exact ⟨_, .ref ((gx S K).gA n), .inl (by rw [ea.1]; exact He.glo_ok X N ea.2), rfl, fun _ _ => .fn⟩
    | tup ds =>
      have q0 : (match PySem.W.nsIn K mainGlobals x with
        | some (some v) => conV K 5 v (.tup ds)
        | _ => false) = true := q
      split at q0
      · rename_i v e
        obtain ⟨u, r1, r2⟩ := conV_ok 5 v _ q0
        exact ⟨v, u, .inl (PySem.W.mg_of X N e), r1, r2 _⟩
      · cases q0
    | _ => exact ff q
  · have e0 : (match S.cs[c]? with
      | some ci => ci.exc && ci.x0
      | none => false) = true := e
    cases e1 : S.cs[c]? with
    | none => rw [e1] at e0; cases e0
    | some ci =>
      rw [e1] at e0
      have q := (b2 (b2 (List.all_eq_true.mp kx1 ci (mem_at e1))).2).1
      unfold exc0B at q
      rw [show (ci.exc && ci.x0) = true from e0] at q
      obtain ⟨q1, q⟩ := b2 (show (PySem.W.excIn K (He.ga K ci.nm) He.veBase "ValueError.__new__" && (PySem.W.keepIn K (.ref (He.ga K ci.nm)) && (decide (PySem.W.subIn K (.ref (He.ga K ci.nm)) (.type "BaseException") = some true) && decide (PySem.W.typeIn K (.ref (He.ga K ci.nm)) = some (.type "type"))))) = true from q)
      obtain ⟨q2, q⟩ := b2 q
      obtain ⟨q3, q4⟩ := b2 q
      rw [gx_cls e1]
      exact ⟨q1, q2, of_decide_eq_true q3, of_decide_eq_true q4⟩
  · have e0 := e
    unfold Sig.sm at e0
    cases e1 : S.cs[c]? with
    | none => rw [e1] at e0; cases e0
    | some ci =>
      rw [e1] at e0
      have mem := lookup_mem (show ci.sm.lookup m = some i from e0)
      have q := List.all_eq_true.mp (b2 (b2 (List.all_eq_true.mp kx1 ci (mem_at e1))).2).2 _ mem
      obtain ⟨fi, e2, e3⟩ := optB_of (List.all_eq_true.mp (chkM_at hs e1) _ mem)
      obtain ⟨e3, e4⟩ := b2 e3
      obtain ⟨q1, q⟩ := b2 q
      obtain ⟨q2, q⟩ := b2 q
      obtain ⟨q3, q⟩ := b2 q
      obtain ⟨q4, q5⟩ := b2 q
      have ea : (gx S K).gA i = He5.wf K (He.ga K ci.nm) "staticmethod" m := by
        rw [gx_fn hs e2]
        unfold fAx
        rw [e3, if_pos rfl, of_decide_eq_true e4]
        rfl
      rw [gx_cls e1, ea]
      obtain ⟨w1, w2⟩ := He5.wrapB_ok q4
      exact ⟨q1, of_decide_eq_true q2, of_decide_eq_true q3, ⟨_, w1, w2⟩, q5⟩
end
/-! ### the head's look -/
/-- a def where it stands -/
def aD (f : Fd) : He5.DefA := ⟨fun K => fAx K f, f.d.name, f.d.qual, f.d.params, f.d.body, f.d.scope, f.d.dfl, f.d.kwd⟩
def obsX (S : Sig) (n : Nat) (g : Addr → Option Obj) : He.AlD := (chkK S (He.frG g (He5.asA g n)) && (S.fs.all fun f => (aD f).ok (He.frG g (He5.asA g n))), S.fs.map fun f => He5.fnA (He.frG g (He5.asA g n)) ((aD f).at_ (He.frG g (He5.asA g n))))
def SaysX (S : Sig) (K : PySem.W.Frag) : Prop := chkK S K = true ∧ ∀ (i : Nat) (fi : Fd), S.fs[i]? = some fi → ∃ fd, FunD K fi.d.name fi.d.qual fi.d.params fi.d.body fi.d.scope (fi.d.dvs K) (fi.d.kws K) (fAx K fi) fd
theorem saysX {S : Sig} {K : PySem.W.Frag} (e : ((chkK S K && (S.fs.all fun f => (aD f).ok K), S.fs.map fun f => He5.fnA K ((aD f).at_ K)) : He.AlD) = (true, S.fs.map fun f => f.d.val)) : SaysX S K := by
  obtain ⟨e1, e2⟩ := Prod.mk.inj e
  obtain ⟨c1, c2⟩ := b2 e1
  refine ⟨c1, fun i fi h => He5.DefA.funD (d := aD fi) ?_ (List.all_eq_true.mp c2 fi (mem_at h))⟩
  have e3 : (S.fs.map fun f => He5.fnA K ((aD f).at_ K))[i]? = (S.fs.map fun f => f.d.val)[i]? := by rw [e2]
  rw [List.getElem?_map, List.getElem?_map, h] at e3
  exact Option.some.inj e3
def valX (S : Sig) : He.AlD := (true, S.fs.map fun f => f.d.val)
theorem saysO {S : Sig} {n : Nat} {g : Addr → Option Obj} (e : obsX S n g = valX S) : SaysX S (He.frG g (He5.asA g n)) := saysX e
def hookX (S : Sig) (n : Nat) : PySem.W.Hook where
  α := He.AlD
  obs := fun s => obsX S n s.heap.get?
  val := fun _ => valX S
  says := fun _ h => ∃ K : PySem.W.Frag, K.In h ∧ SaysX S K
  of := fun _ s e => ⟨_, He.frG_in, saysO e⟩
  keeps := fun _ _ _ ⟨K, hK, c⟩ k => ⟨K, PySem.W.Frag.In.keeps hK k, c⟩
theorem obsX_eq {S : Sig} {n : Nat} {g : Addr → Option Obj} {s : Shared} (h : ∀ a, g a = s.heap.get? a) : obsX S n g = obsX S n s.heap.get? := by
  have e : g = s.heap.get? := funext h
  rw [e]
/-! ### a law's end -/
/-- what a def's parameters are bound to, by its written form -/
structure BnF (fi : Fd) : Prop where
  b : ∀ (K : PySem.W.Frag) (f : Addr) (fd : FuncData), FunD K fi.d.name fi.d.qual fi.d.params fi.d.body fi.d.scope (fi.d.dvs K) (fi.d.kws K) f fd → Binds K fd fi.ps []
structure ShF (fi : Fd) (sh : Sh) : Prop where
  b : ∀ (K : PySem.W.Frag) (f : Addr) (fd : FuncData), FunD K fi.d.name fi.d.qual fi.d.params fi.d.body fi.d.scope (fi.d.dvs K) (fi.d.kws K) f fd → ShOk K sh fd fi.ps fi.dds
/-- no defaults -/
theorem BnF.no {fi : Fd} (h0 : fi.d.dfl = []) (h : ∀ (kV doc pm : Value) (an : Option Addr) (cdv ct : Value) (us : List Value), us.length = fi.ps.length → bindArgs (PySem.W.fnOf fi.d.name fi.d.qual fi.d.params fi.d.body fi.d.scope .none kV doc pm an cdv ct) ⟨us, []⟩ = pure (fi.ps.zip us)) : BnF fi :=
  ⟨fun K f fd F => by
    have e : fi.d.dvs K = [] := by unfold He.DefD.dvs; rw [h0]; rfl
    rw [e] at F
    exact F.bindsN h⟩
/-- defaults, none of them wanted -/
theorem BnF.df {fi : Fd} (h0 : fi.d.dfl ≠ []) (h : ∀ (T : Addr) (kV doc pm : Value) (an : Option Addr) (cdv ct : Value) (us its : List Value), us.length = fi.ps.length → its.length = fi.d.dfl.length →
      ∃ k, bindArgs (PySem.W.fnOf fi.d.name fi.d.qual fi.d.params fi.d.body fi.d.scope (.ref T) kV doc pm an cdv ct) ⟨us, []⟩ = seqItems? (.ref T) >>= k ∧ k (some its.toArray) = pure (fi.ps.zip us)) : BnF fi :=
  ⟨fun K f fd F => by
    have hl : (fi.d.dvs K).length = fi.d.dfl.length := by unfold He.DefD.dvs; exact List.length_map ..
    have hne : fi.d.dvs K ≠ [] := fun z => h0 (List.length_eq_zero_iff.mp (by rw [← hl, z]; rfl))
    obtain ⟨ds, v, b⟩ := F.binds1 (ps := fi.ps) fi.ps.length (fi.d.dvs K).length hne (by omega) fun T kV doc pm an cdv ct us its l1 l2 => by
      obtain ⟨k, e1, e2⟩ := h T kV doc pm an cdv ct us its l1 (l2.trans hl)
      refine ⟨k, e1, ?_⟩
      rw [e2, ← l2, List.drop_length, List.append_nil]
    rw [List.drop_length] at v
    cases v
    exact b⟩
theorem paired_get {α β : Type} {R : α → β → Prop} : ∀ {xs : List α} {ys : List β} (i : Nat), Paired R xs ys → (xs[i]? = none ∧ ys[i]? = none) ∨ ∃ x y, xs[i]? = some x ∧ ys[i]? = some y ∧ R x y
  | [], [], _, .nil => .inl ⟨by simp, by simp⟩
  | _ :: _, _ :: _, 0, .cons h _ => .inr ⟨_, _, rfl, rfl, h⟩
  | _ :: _, _ :: _, i + 1, .cons _ r => by
    rcases paired_get i r with ⟨h1, h2⟩ | ⟨x, y, h1, h2, h3⟩
    · exact .inl ⟨by simpa using h1, by simpa using h2⟩
    · exact .inr ⟨x, y, by simpa using h1, by simpa using h2, h3⟩
theorem put_vals : ∀ {src : List Src} {vs dv zs : List V} {us its ws : List Value}, Vals vs us → Vals dv its → Vals zs ws → Vals (putSrc src vs dv zs) (putSrc src us its ws)
  | [], _, _, _, _, _, _, _, _, _ => .nil
  | s :: r, vs, dv, zs, us, its, ws, h1, h2, h3 => by
    have ih := put_vals (src := r) h1 h2 h3
    have key : ∀ {xs : List V} {ys : List Value} (i : Nat), Vals xs ys → Vals ((xs[i]?).toList ++ putSrc r vs dv zs) ((ys[i]?).toList ++ putSrc r us its ws) := fun i h => by
      rcases paired_get i h with ⟨e1, e2⟩ | ⟨x, y, e1, e2, e3⟩
      · rw [e1, e2]; exact ih
      · rw [e1, e2]; exact .cons e3 ih
    cases s with
    | p i => exact key i h1
    | k i => exact key i h3
    | d i => exact key i h2
theorem reps_get {K : PySem.W.Frag} {G : Gx} {ι : List Addr} {M : Hp} : ∀ {vs : List V} {ds : List D} (i : Nat), Reps K G ι M vs ds → (vs[i]? = none ∧ ds[i]? = none) ∨ ∃ v d, vs[i]? = some v ∧ ds[i]? = some d ∧ Rep K G ι M v d
  | _, _, _, .nil => .inl ⟨by simp, by simp⟩
  | _, _, 0, .cons h _ => .inr ⟨_, _, rfl, rfl, h⟩
  | _, _, i + 1, .cons _ r => by
    rcases reps_get i r with ⟨h1, h2⟩ | ⟨x, y, h1, h2, h3⟩
    · exact .inl ⟨by simpa using h1, by simpa using h2⟩
    · exact .inr ⟨x, y, by simpa using h1, by simpa using h2, h3⟩
theorem put_reps {K : PySem.W.Frag} {G : Gx} {ι : List Addr} {M : Hp} : ∀ {src : List Src} {vs dv zs : List V} {us its ws : List D}, Reps K G ι M vs us → Reps K G ι M dv its → Reps K G ι M zs ws → Reps K G ι M (putSrc src vs dv zs) (putSrc src us its ws)
  | [], _, _, _, _, _, _, _, _, _ => .nil
  | s :: r, vs, dv, zs, us, its, ws, h1, h2, h3 => by
    have ih := put_reps (src := r) h1 h2 h3
    have key : ∀ {xs : List V} {ys : List D} (i : Nat), Reps K G ι M xs ys → Reps K G ι M ((xs[i]?).toList ++ putSrc r vs dv zs) ((ys[i]?).toList ++ putSrc r us its ws) := fun i h => by
      rcases reps_get i h with ⟨e1, e2⟩ | ⟨x, y, e1, e2, e3⟩
      · rw [e1, e2]; exact ih
      · rw [e1, e2]; exact .cons e3 ih
    cases s with
    | p i => exact key i h1
    | k i => exact key i h3
    | d i => exact key i h2
/-- simple defaults as data -/
def dvD : He.Dv → D
  | .bl b => .bl b
  | .int i => .int i
  | .str x => .str x
  | .ty n => .ty n
  | _ => .non
def dvOk : He.Dv → Bool
  | .non | .bl _ | .int _ | .str _ | .ty _ => true
  | _ => false
theorem dv_rep {K : PySem.W.Frag} {G : Gx} {ι : List Addr} {M : Hp} : ∀ {l : List He.Dv}, l.all dvOk = true → Reps K G ι M (l.map (He.Dv.v K)) (l.map dvD)
  | [], _ => .nil
  | v :: r, h => by
    obtain ⟨h1, h2⟩ := b2 (show (dvOk v && r.all dvOk) = true from h)
    refine .cons ?_ (dv_rep h2)
    cases v <;> first | exact .non | exact .bl | exact .int | exact .str | exact .ty | exact ff h1
/-- a shape: values, keywords, defaults -/
theorem ShF.df {fi : Fd} {sh : Sh} (h0 : fi.d.dfl ≠ []) (hk : fi.d.dfl.all dvOk = true) (hd : fi.dds = fi.d.dfl.map dvD)
    (h : ∀ (T : Addr) (kV doc pm : Value) (an : Option Addr) (cdv ct : Value) (us its ws : List Value), us.length = sh.n → its.length = fi.d.dfl.length → ws.length = sh.ks.length →
      ∃ k, bindArgs (PySem.W.fnOf fi.d.name fi.d.qual fi.d.params fi.d.body fi.d.scope (.ref T) kV doc pm an cdv ct) ⟨us, sh.ks.zip ws⟩ = seqItems? (.ref T) >>= k ∧ k (some its.toArray) = pure (fi.ps.zip (putSrc sh.src us its ws))) : ShF fi sh :=
  ⟨fun K f fd F => by
    have hl : (fi.d.dvs K).length = fi.d.dfl.length := by unfold He.DefD.dvs; exact List.length_map ..
    have hne : fi.d.dvs K ≠ [] := fun z => h0 (List.length_eq_zero_iff.mp (by rw [← hl, z]; rfl))
    obtain ⟨oc, od, dV, kV, doc, pm, an, cdv, ct, osl, rfl, lk, hcd, hD, hK⟩ := F.ex
    rcases hD with ⟨e, _⟩ | ⟨_, T, o, its, m, rfl, lT, oT, rT⟩
    · exact absurd e hne
    · refine ⟨fun us ws => putSrc sh.src us its ws, fun vs zs => putSrc sh.src vs (fi.d.dvs K) zs, ⟨fun s us ws X l1 l2 => ?_, fun r1 r2 => put_vals r1 rT r2⟩, fun G ι M vs zs ds es r1 r2 => ?_⟩
      · obtain ⟨k, e1, e2⟩ := h T kV doc pm an cdv ct us its ws l1 (rT.length.symm.trans hl) l2
        refine BindsTo.of_looks fun M => ?_
        rw [e1]
        exact looks_items X lT oT (.of_pure e2)
      · have q : Reps K G ι M (fi.d.dvs K) fi.dds := by
          rw [hd]
          exact dv_rep hk
        exact put_reps r1 q r2⟩
/-- a shape: values and keywords, no defaults -/
theorem ShF.no {fi : Fd} {sh : Sh} (h0 : fi.d.dfl = []) (hd : fi.dds = [])
    (h : ∀ (kV doc pm : Value) (an : Option Addr) (cdv ct : Value) (us ws : List Value), us.length = sh.n → ws.length = sh.ks.length →
      bindArgs (PySem.W.fnOf fi.d.name fi.d.qual fi.d.params fi.d.body fi.d.scope .none kV doc pm an cdv ct) ⟨us, sh.ks.zip ws⟩ = pure (fi.ps.zip (putSrc sh.src us [] ws))) : ShF fi sh :=
  ⟨fun K f fd F => by
    have e : fi.d.dvs K = [] := by unfold He.DefD.dvs; rw [h0]; rfl
    rw [e] at F
    obtain ⟨oc, od, dV, kV, doc, pm, an, cdv, ct, osl, rfl, lk, hcd, hD, hK⟩ := F.ex
    rcases hD with ⟨_, rfl⟩ | ⟨e, _⟩
    · refine ⟨fun us ws => putSrc sh.src us [] ws, fun vs zs => putSrc sh.src vs [] zs, ⟨fun s us ws X l1 l2 => .of_eq (h kV doc pm an cdv ct us ws l1 l2), fun r1 r2 => put_vals r1 .nil r2⟩, fun G ι M vs zs ds es r1 r2 => ?_⟩
      rw [hd]
      exact put_reps r1 .nil r2
    · exact absurd rfl e⟩
theorem fn_cx {P : Program} {w : World} {K : PySem.W.Frag} {mg : Str → Option Value} {base : Heap} {CX CX' : CXT} {k : Nat} {f : Addr} {fd : FuncData} {ps : List Str} {sp : Sp} (F : FnOk P w K mg base CX k f fd ps sp) (h : ∀ outer H s E e s', CX outer H s E e s' → CX' outer H s E e s') : FnOk P w K mg base CX' k f fd ps sp :=
  ⟨F.len, fun A outer s H args us vs Q E hr he hb hv hs => codeAny_mono (F.run A outer s H args us vs Q E hr he hb hv hs) fun r s' q => by
    cases r with
    | error e => exact h _ _ _ _ _ _ q
    | ok f => cases f <;> exact q⟩
theorem law_walk {l : PySem.W.OpenLaw} {S : Sig} {li n m : Nat} {fl : Fd} {x : Str} {q : Program} {loose : List Str} {XP : (Str → Option Value) → Heap → Prop} {d : DefRec} (hn : l.most = some 63) (hdf : d.params.defaults = []) (hr : Room (3 * n) callerA)
    (hs : chkS S = true) (hl : S.fs[li]? = some fl) (hat : fl.d.at_ = (d.name, none)) (hps : fl.ps = [x]) (hd0 : fl.d.dfl = [])
    (hb : ∀ (i : Nat) (fi : Fd), S.fs[i]? = some fi → BnF fi) (hc : ∀ (i : Nat) (fi : Fd), S.fs[i]? = some fi → ∃ n, chkF S n fi = true)
    (hsh : ∀ (s : Nat) (sh : Sh) (fi : Fd), S.sh[s]? = some sh → S.fs[sh.f]? = some fi → ShF fi sh)
    (hA : ∀ (kV doc pm : Value) (an : Option Addr) (cdv ct : Value) (us : List Value), us.length = 1 → bindArgs (PySem.W.fnOf fl.d.name fl.d.qual fl.d.params fl.d.body fl.d.scope .none kV doc pm an cdv ct) ⟨us, []⟩ = pure (([x] : List Str).zip us))
    (pure_ : ∀ ns : List Int, ns.length ≤ 63 → ∃ μ, runS S n li [.klst (ns.map D.int)] [] = .ok (.bl true) μ) :
    PySem.W.WalkO q loose XP (hookX S m).says l.row.toRowW d [] (fun f vs => PySem.call f vs) := by
  have key : ∀ (w : World) (mg : Str → Option Value) (fa : Addr) (h : Heap), (hookX S m).says w h → h.Ns mainGlobals mg → mg d.name = some (.ref fa) →
      ∃ (K : PySem.W.Frag) (fd : FuncData) (sp : Sp), K.In h ∧ (∀ (s : Shared) (u : Value), BindsTo s fd ⟨[u], []⟩ [(x, u)]) ∧
        (∀ (H : Hp) (a : Addr) (ns : List Int), ns.length ≤ 63 → Only H → SqL K H a (ns.map V.int) → sp [.ref a] H (fun v _ => v = .bl true) fun _ _ _ => False) ∧
        ∀ base : Heap, K.In base → base.Ns mainGlobals mg → FnOk l.prog w K mg base (L2.CX l.prog w) (3 * n) fa fd [x] sp := by
    intro w mg fa h ⟨K, KX, hk, hfn⟩ N hmg
    have sk : ∃ fd : Nat → FuncData, ∀ (i : Nat) (fi : Fd), S.fs[i]? = some fi → FunD K fi.d.name fi.d.qual fi.d.params fi.d.body fi.d.scope (fi.d.dvs K) (fi.d.kws K) (fAx K fi) (fd i) := by
      have : ∀ i : Nat, ∃ f : FuncData, ∀ fi : Fd, S.fs[i]? = some fi → FunD K fi.d.name fi.d.qual fi.d.params fi.d.body fi.d.scope (fi.d.dvs K) (fi.d.kws K) (fAx K fi) f := fun i => by
        cases e : S.fs[i]? with
        | none =>
          obtain ⟨f, _⟩ := hfn li fl hl
          exact ⟨f, fun fi z => by cases z⟩
        | some fi =>
          obtain ⟨f, F⟩ := hfn i fi e
          exact ⟨f, fun fi' z => by cases z; exact F⟩
      exact ⟨fun i => Classical.choose (this i), fun i fi e => Classical.choose_spec (this i) fi e⟩
    obtain ⟨fd, hfd⟩ := sk
    have HD : Hd K mg (gx S K) S fd := Hd.of KX N hs hk (fun i fi e => ⟨_, _, hfd i fi e⟩) (fun i fi e => (hb i fi e).b K _ _ (hfd i fi e)) hc fun s sh fi e1 e2 => (hsh s sh fi e1 e2).b K _ _ (hfd sh.f fi e2)
    have hgl := HD.glf li fl hl (by rw [hat])
    rw [hat] at hgl
    have ea : fa = (gx S K).gA li := by
      have := hmg.symm.trans hgl.1
      cases this
      rfl
    subst ea
    refine ⟨K, fd li, sp3 K (gx S K) 1 (runS S n li), KX, fun s u => ?_, fun H a ns hl' _ hS => ?_, fun base kb nb => ?_⟩
    · have F := hfd li fl hl
      have e : fl.d.dvs K = [] := by unfold He.DefD.dvs; rw [hd0]; rfl
      rw [e] at F
      exact FunD.bindsA (ps := [x]) F (fun kV doc pm an cdv ct us l => hA kV doc pm an cdv ct us l) s [u] rfl
    · obtain ⟨μ', e⟩ := pure_ ns hl'
      refine ⟨rfl, [], H, [], [.klst (ns.map D.int)], ⟨Ext.rfl', rfl, fun i j a h _ => by simp at h, fun i a c h _ => by simp at h⟩, .cons (.klst hS (Reps.ints ns)) .nil, ?_⟩
      rw [e]
      exact fun ι' M' H' _ v r => rep_bl r
    · have T := HD.all (P := l.prog) (w := w) (base := base) n
      have o := (T.own li fl hl).ok
      rw [hps] at o
      exact o
  exact L2.walk_ofE (n := 63) (k := 3 * n) (x := x) (CX := fun outer H s E u s' => ∃ w, L2.CX l.prog w outer H s E u s') hn (by decide) hdf hr (fun w mg fa h Y N hm => by
    obtain ⟨K, fd, sp, h1, h2, h3, h4⟩ := key w mg fa h Y N hm
    exact ⟨K, fd, sp, h1, h2, h3, fun base a b => fn_cx (h4 base a b) fun _ _ _ _ _ _ z => ⟨w, z⟩⟩) (fun H s e s' h => by
    obtain ⟨w, a, B, H', c, dd, h1, h2, h3, h4, h5, h6, h7, h8⟩ := h
    exact h8)
/-! ### lists of facts -/
inductive Alls (P : Fd → Prop) : List Fd → Prop
  | nil : Alls P []
  | cons {a l} : P a → Alls P l → Alls P (a :: l)
theorem Alls.get {P : Fd → Prop} : ∀ {l : List Fd} {i : Nat} {a : Fd}, Alls P l → l[i]? = some a → P a
  | _, _, _, .nil, e => by simp at e
  | _, 0, _, .cons h _, e => by simp at e; exact e ▸ h
  | _, i + 1, _, .cons _ r, e => r.get (i := i) (by simpa using e)
inductive Alls2 (S : Sig) : List Sh → Prop
  | nil : Alls2 S []
  | cons {fi sh r} : S.fs[sh.f]? = some fi → ShF fi sh → Alls2 S r → Alls2 S (sh :: r)
theorem Alls2.get {S : Sig} : ∀ {l : List Sh} {i : Nat} {sh : Sh} {fi : Fd}, Alls2 S l → l[i]? = some sh → S.fs[sh.f]? = some fi → ShF fi sh
  | _, _, _, _, .nil, e, _ => by simp at e
  | _, 0, _, _, .cons h1 h _, e, e2 => by
    simp at e
    subst e
    rw [h1] at e2
    cases e2
    exact h
  | _, i + 1, _, _, .cons _ _ r, e, e2 => r.get (i := i) (by simpa using e) e2
end L3

set_option maxRecDepth 100000
set_option maxHeartbeats 4000000
/-! L5a: reckoning with the small language's meaning. -/
namespace L3
open PySem PySem.Spec PyProof.Rows L2
/-! ### while -/
theorem toS_mono {α : Type} {r : Res α} {δ : Env3} {g g' : α → Mu → RS} (h : ∀ a m, g a m ≠ .stuck → g' a m = g a m) (ne : r.toS δ g ≠ .stuck) : r.toS δ g' = r.toS δ g := by
  cases r with
  | ok a m => exact h a m ne
  | exc c fs m => rfl
  | stuck => rfl
theorem loop_mono {r : RS} {g g' : FS} (h : ∀ δ m, g δ m ≠ .stuck → g' δ m = g δ m) (ne : r.loop g ≠ .stuck) : r.loop g' = r.loop g := by
  cases r with
  | nx δ m => exact h δ m ne
  | ct δ m => exact h δ m ne
  | _ => rfl
theorem whileL_mono {Ft : FT} {B : FS} : ∀ (n k : Nat) (δ : Env3) (μ : Mu), whileL Ft B n δ μ ≠ .stuck → whileL Ft B (n + k) δ μ = whileL Ft B n δ μ
  | 0, _, _, _, h => absurd rfl h
  | n + 1, k, δ, μ, h => by
    have e : n + 1 + k = (n + k) + 1 := by omega
    rw [e]
    show (Ft δ μ).toS δ (fun b μ => if b = true then (B δ μ).loop (whileL Ft B (n + k)) else .nx δ μ) = (Ft δ μ).toS δ (fun b μ => if b = true then (B δ μ).loop (whileL Ft B n) else .nx δ μ)
    refine toS_mono (fun b m ne => ?_) h
    cases b with
    | false => rfl
    | true =>
      rw [if_pos rfl] at ne ⊢
      rw [if_pos rfl]
      exact loop_mono (fun δ m ne => whileL_mono n k δ m ne) ne
theorem while_eq {Ft : FT} {B : FS} {n : Nat} {δ : Env3} {μ : Mu} {r : RS} (h : whileL Ft B n δ μ = r) (ne : r ≠ .stuck) : sWhile (whileF Ft B) Ft B δ μ = r := by
  have ex : ∃ n, whileL Ft B n δ μ ≠ .stuck := ⟨n, by rw [h]; exact ne⟩
  show whileL Ft B (whileF Ft B δ μ) δ μ = r
  have e : whileF Ft B δ μ = Classical.choose ex := by
    unfold whileF
    rw [dif_pos ex]
  rw [e]
  have s := Classical.choose_spec ex
  generalize Classical.choose ex = m at s
  rcases Nat.le_total n m with l | l
  · have e2 : m = n + (m - n) := by omega
    rw [e2, whileL_mono n (m - n) δ μ (by rw [h]; exact ne), h]
  · have e2 : n = m + (n - m) := by omega
    rw [← h, e2, whileL_mono m (n - m) δ μ s]
/-! ### freezing -/
theorem mapO_some {α β : Type} {f : α → Option β} {g : α → β} : ∀ {l : List α}, (∀ a ∈ l, f a = some (g a)) → mapO f l = some (l.map g)
  | [], _ => rfl
  | a :: r, h => by
    unfold mapO
    rw [h a (List.mem_cons_self ..)]
    dsimp only
    rw [mapO_some fun b hb => h b (List.mem_cons_of_mem _ hb)]
    rfl
theorem lows_mem {n : Nat} : ∀ {l : List D}, D.lows n l = true → ∀ d ∈ l, D.low n d = true
  | [], _, d, h => by cases h
  | a :: r, h, d, hd => by
    rw [D.lows, Bool.and_eq_true] at h
    rcases List.mem_cons.mp hd with e | e
    · rw [e]; exact h.1
    · exact lows_mem h.2 d e
theorem fzD_low {n k : Nat} {m : Mu} {d : D} (h : D.low n d = true) : fzD n m k d = some d := by
  cases k with
  | zero => unfold fzD; rw [if_pos h]
  | succ k => unfold fzD; rw [if_pos h]
theorem mapO_low {n k : Nat} {m : Mu} {l : List D} (h : D.lows n l = true) : mapO (fzD n m k) l = some l := by
  have e := mapO_some (f := fzD n m k) (g := id) (l := l) fun d hd => fzD_low (lows_mem h d hd)
  rwa [List.map_id] at e
/-- a new object of low parts, frozen -/
theorem closeFz_ins {μ : Mu} {c : Nat} {ds : List D} (h : D.lows μ.length ds = true) : closeFz μ (.cell μ.length) (μ ++ [.ins c ds]) = .ok (.ins c ds) μ := by
  refine closeFz_app ?_
  show (if D.low μ.length (.cell μ.length) = true then _ else _) = _
  rw [if_neg (by simp [D.low])]
  simp [mapO_low h]
theorem closeFz_int {μ j : Mu} {i : Int} : closeFz μ (.int i) (μ ++ j) = .ok (.int i) μ := closeFz_app (fzD_low rfl)
theorem closeFz_bl {μ j : Mu} {b : Bool} : closeFz μ (.bl b) (μ ++ j) = .ok (.bl b) μ := closeFz_app (fzD_low rfl)
theorem set_last {α : Type} (l : List α) (a b : α) : (l ++ [a]).set l.length b = l ++ [b] := by
  rw [List.set_append_right _ _ (Nat.le_refl _), Nat.sub_self]
  rfl
theorem get_last {α : Type} (l : List α) (a : α) : (l ++ [a])[l.length]? = some a := by simp
/-! ### a def's run -/
def toR : RS → Res D
  | .ret d m => .ok d m
  | .nx _ m => .ok .non m
  | .exc c fs _ m => .exc c fs m
  | _ => .stuck
theorem run_raw {S : Sig} {n i : Nat} {fi : Fd} {ds : List D} {μ : Mu} (e : S.fs[i]? = some fi) (z : fi.fz = false) (l : ds.length = fi.ps.length) :
    runS S (n + 1) i ds μ = toR (semB S (runS S n) fi.body (ds.map some ++ List.replicate (fi.N.length - ds.length) none) μ) := by
  unfold runS
  rw [e]
  dsimp only
  rw [z, if_neg (by decide)]
  unfold fnR
  rw [if_pos l]
  cases semB S (runS S n) fi.body (ds.map some ++ List.replicate (fi.N.length - ds.length) none) μ <;> rfl
end L3

set_option maxRecDepth 100000
set_option maxHeartbeats 4000000
/-! L5b: the meaning's equations, at a place and a state. -/
namespace L3
open PySem PySem.Spec PyProof.Rows L2
section
variable {S : Sig} {run : Nat → List D → PM D} {δ : Env3} {μ : Mu}
theorem x_var (i : Nat) : semE S run (.var i) δ μ = match δ[i]? with
  | some (some d) => .ok d μ
  | _ => .stuck := id rfl
theorem x_int (i : Int) : semE S run (.int i) δ μ = .ok (.int i) μ := id rfl
theorem x_bl (i : Bool) : semE S run (.bl i) δ μ = .ok (.bl i) μ := id rfl
theorem x_str (i : Str) : semE S run (.str i) δ μ = .ok (.str i) μ := id rfl
theorem x_non : semE S run .non δ μ = .ok .non μ := id rfl
def gloD (S : Sig) (n : Nat) : Option D := (S.ks[n]?).map (·.2)
theorem x_glo (n : Nat) : semE S run (.glo n) δ μ = match gloD S n with
    | some k => .ok k μ
    | none => .stuck := by
  show (match S.ks[n]? with
    | some k => Res.ok k.2 μ
    | none => .stuck) = _
  unfold gloD
  cases S.ks[n]? <;> rfl
theorem x_bin (o : Operator) (a b : JE) : semE S run (.bin o a b) δ μ = (semE S run a δ μ).bind fun x m => (semE S run b δ m).bind fun y m => binS S run o x y m := id rfl
theorem x_un (o : UnaryOp) (a : JE) : semE S run (.un o a) δ μ = (semE S run a δ μ).bind fun x m => unS S run o x m := id rfl
theorem x_cmp (o : CmpOp) (a b : JE) : semE S run (.cmp o a b) δ μ = (semE S run a δ μ).bind fun x m => (semE S run b δ m).bind fun y m => cmpS S run o x y m := id rfl
theorem x_cmp2 (o p : CmpOp) (a b c : JE) : semE S run (.cmp2 o p a b c) δ μ = (semE S run a δ μ).bind fun x μ => (semE S run b δ μ).bind fun y μ => (cmpS S run o x y μ).bind fun r μ => match r with
    | .bl true => (semE S run c δ μ).bind fun z μ => cmpS S run p y z μ
    | .bl false => .ok (.bl false) μ
    | _ => .stuck := id rfl
def asBl (d : D) (m : Mu) : Res Bool := match d with
  | .bl b => .ok b m
  | _ => .stuck
theorem asBl_bl (b : Bool) (m : Mu) : asBl (.bl b) m = .ok b m := id rfl
theorem asB_eq (F : FE) : asB F δ μ = (F δ μ).bind asBl := id rfl
theorem x_and (a b : JE) : semE S run (.and a b) δ μ = ((semE S run a δ μ).bind asBl).bind fun c m => if c = true then semE S run b δ m else .ok (.bl false) m := id rfl
theorem x_or (a b : JE) : semE S run (.or a b) δ μ = ((semE S run a δ μ).bind asBl).bind fun c m => if c = true then .ok (.bl true) m else semE S run b δ m := id rfl
theorem x_not (a : JE) : semE S run (.not a) δ μ = ((semE S run a δ μ).bind asBl).bind fun c m => .ok (.bl (!c)) m := id rfl
theorem x_ite (c : JT) (a b : JE) : semE S run (.ite c a b) δ μ = (semT S run c δ μ).bind fun c m => if c = true then semE S run a δ m else semE S run b δ m := id rfl
theorem x_tup (es : JA) : semE S run (.tup es) δ μ = (semA S run es δ μ).bind fun ds m => if ds.length ≤ 1000000 then .ok (.tup ds) m else .stuck := id rfl
theorem x_lst (es : JA) : semE S run (.lst es) δ μ = (semA S run es δ μ).bind fun ds m => if ds.length ≤ 1000000 then .ok (.lst ds) m else .stuck := id rfl
theorem x_lstC (es : JA) : semE S run (.lstC es) δ μ = (semA S run es δ μ).bind fun ds m => if ds.length ≤ 1000000 then .ok (.cell m.length) (m ++ [.lst ds]) else .stuck := id rfl
theorem x_call (f : Nat) (es : JA) : semE S run (.call f es) δ μ = (semA S run es δ μ).bind fun ds m => run f ds m := id rfl
theorem x_callK (s : Nat) (es ks : JA) : semE S run (.callK s es ks) δ μ = (semA S run es δ μ).bind fun ds m => (semA S run ks δ m).bind fun zs m => callKS S run s ds zs m := id rfl
theorem x_mk (c : Nat) (es : JA) : semE S run (.mk c es) δ μ = (semA S run es δ μ).bind fun ds m => mkS true c (fun o m => mrun S run c "__init__" (o ++ ds) m) m := id rfl
theorem x_mkC (c : Nat) (es : JA) : semE S run (.mkC c es) δ μ = (semA S run es δ μ).bind fun ds m => mkS false c (fun o m => mrun S run c "__init__" (o ++ ds) m) m := id rfl
theorem x_mkK (s c : Nat) (es ks : JA) : semE S run (.mkK s c es ks) δ μ = (semA S run es δ μ).bind fun ds m => (semA S run ks δ m).bind fun zs m => mkS true c (fun o m => callKS S run s (o ++ ds) zs m) m := id rfl
theorem x_meth (m : Str) (o : JE) (es : JA) : semE S run (.meth m o es) δ μ = (semE S run o δ μ).bind fun x μ => methS S run m x (semA S run es δ) μ := id rfl
theorem x_attr (x : Str) (o : JE) : semE S run (.attr x o) δ μ = (semE S run o δ μ).bind fun d m => attrS S x d m := id rfl
/-- a subscript, not unfolded by itself -/
def ixF (x y : D) (μ : Mu) : Res D := ixD x y μ
theorem x_ix (a b : JE) : semE S run (.ix a b) δ μ = (semE S run a δ μ).bind fun x m => (semE S run b δ m).bind fun y m => ixF x y m := id rfl
theorem x_bi (b : BI) (es : JA) : semE S run (.bi b es) δ μ = (semA S run es δ μ).bind fun ds m => biS S run b ds m := id rfl
theorem x_sl (c : Bool) (a : JE) (lo hi : JO) : semE S run (.sl c a lo hi) δ μ = (semE S run a δ μ).bind fun x μ => (semO S run lo δ μ).bind fun l μ => (semO S run hi δ μ).bind fun h μ => slS c x l h μ := id rfl
theorem x_fz (a : JE) : semE S run (.fz a) δ μ = (semE S run a δ μ).bind fun d m => closeFz μ d m := id rfl
theorem x_nil : semA S run .nil δ μ = .ok [] μ := id rfl
theorem x_cons (e : JE) (r : JA) : semA S run (.cons e r) δ μ = (semE S run e δ μ).bind fun d m => (semA S run r δ m).bind fun ds m => .ok (d :: ds) m := id rfl
theorem x_onone : semO S run .none δ μ = .ok none μ := id rfl
def asI (d : D) (m : Mu) : Res (Option Int) := match d with
  | .int i => .ok (some i) m
  | _ => .stuck
theorem asI_int (i : Int) (m : Mu) : asI (.int i) m = .ok (some i) m := id rfl
theorem x_osome (e : JE) : semO S run (.some e) δ μ = (semE S run e δ μ).bind asI := id rfl
theorem x_tval (e : JE) : semT S run (.val e) δ μ = (semE S run e δ μ).bind asBl := id rfl
theorem x_tand (a b : JT) : semT S run (.and a b) δ μ = (semT S run a δ μ).bind fun c m => if c = true then semT S run b δ m else .ok false m := id rfl
theorem x_tor (a b : JT) : semT S run (.or a b) δ μ = (semT S run a δ μ).bind fun c m => if c = true then .ok true m else semT S run b δ m := id rfl
theorem x_tnot (a : JT) : semT S run (.not a) δ μ = (semT S run a δ μ).bind fun c m => .ok (!c) m := id rfl
def walkR (d : D) (m : Mu) : Res It3 := match walkOf d m with
  | some p => .ok p m
  | none => .stuck
theorem walkR_tup (ds : List D) (m : Mu) : walkR (.tup ds) m = .ok (ds, []) m := id rfl
theorem walkR_lst (ds : List D) (m : Mu) : walkR (.lst ds) m = .ok (ds, []) m := id rfl
theorem walkR_klst (ds : List D) (m : Mu) : walkR (.klst ds) m = .ok (ds, []) m := id rfl
theorem walkR_cell {i : Nat} {ds : List D} {m : Mu} (h : m[i]? = some (.lst ds)) : walkR (.cell i) m = .ok (ds, [(i, ds)]) m := by
  unfold walkR walkOf
  simp only [h]
def walkT (d : D) (m : Mu) : Res It3 := match d with
  | .str x => .ok (chars x, []) m
  | _ => .stuck
theorem walkT_str (x : Str) (m : Mu) : walkT (.str x) m = .ok (chars x, []) m := id rfl
theorem x_itxt (e : JE) : semI S run (.txt e) δ μ = (semE S run e δ μ).bind walkT := id rfl
theorem x_iseq (e : JE) : semI S run (.seq e) δ μ = (semE S run e δ μ).bind walkR := id rfl
def rngR (i j : D) (m : Mu) : Res It3 := match i, j with
  | .int i, .int j => if smallI i = true ∧ smallI j = true then .ok (irange i (j - i).toNat, []) m else .stuck
  | _, _ => .stuck
theorem rngR_ok {i j : Int} {m : Mu} (hi : smallI i = true) (hj : smallI j = true) : rngR (.int i) (.int j) m = .ok (irange i (j - i).toNat, []) m := if_pos ⟨hi, hj⟩
def rng1 (j : D) (m : Mu) : Res It3 := match j with
  | .int j => if smallI j = true then .ok (irange 0 j.toNat, []) m else .stuck
  | _ => .stuck
theorem rng1_ok {j : Int} {m : Mu} (hj : smallI j = true) : rng1 (.int j) m = .ok (irange 0 j.toNat, []) m := if_pos hj
theorem x_irange1 (e : JE) : semI S run (.range1 e) δ μ = (semE S run e δ μ).bind rng1 := by
  show ((semE S run e δ μ).bind fun d m => (Res.ok [] m).bind fun ds m => Res.ok (d :: ds) m).bind _ = _
  cases semE S run e δ μ with
  | ok d m => cases d <;> rfl
  | exc c fs m => rfl
  | stuck => rfl
theorem x_irange2 (a b : JE) : semI S run (.range2 a b) δ μ = (semE S run a δ μ).bind fun x m => (semE S run b δ m).bind fun y m => rngR x y m := by
  show ((semE S run a δ μ).bind fun x m => ((semE S run b δ m).bind fun d m => (Res.ok [] m).bind fun ds m => Res.ok (d :: ds) m).bind fun ds m => Res.ok (x :: ds) m).bind _ = _
  cases semE S run a δ μ with
  | ok x m =>
    show (((semE S run b δ m).bind _).bind _).bind _ = (semE S run b δ m).bind _
    cases semE S run b δ m with
    | ok y m => cases x <;> first | rfl | (cases y <;> rfl)
    | exc c fs m => rfl
    | stuck => rfl
  | exc c fs m => rfl
  | stuck => rfl
def enR (p : It3) (m : Mu) : Res It3 := .ok (enumF 0 p.1, p.2) m
theorem enR_eq (p : It3) (m : Mu) : enR p m = .ok (enumF 0 p.1, p.2) m := id rfl
theorem x_ienum (e : JE) : semI S run (.enum e) δ μ = ((semE S run e δ μ).bind walkR).bind enR := by
  show ((semE S run e δ μ).bind fun d m => (Res.ok [] m).bind fun ds m => Res.ok (d :: ds) m).bind _ = _
  cases semE S run e δ μ with
  | ok d m =>
    show (match walkOf d m with
      | some p => Res.ok (enumF 0 p.1, p.2) m
      | none => .stuck) = (walkR d m).bind enR
    unfold walkR
    cases walkOf d m <;> rfl
  | exc c fs m => rfl
  | stuck => rfl
def zipR (d d' : D) (m : Mu) : Res It3 := if isTupD d = isTupD d' then (match walkOf d m, walkOf d' m with
    | some p, some p' => .ok (zipF p.1 p'.1, p.2 ++ p'.2) m
    | _, _ => .stuck) else .stuck
theorem x_izip (a b : JE) : semI S run (.zip a b) δ μ = (semE S run a δ μ).bind fun x m => (semE S run b δ m).bind fun y m => zipR x y m := by
  show ((semE S run a δ μ).bind fun x m => ((semE S run b δ m).bind fun d m => (Res.ok [] m).bind fun ds m => Res.ok (d :: ds) m).bind fun ds m => Res.ok (x :: ds) m).bind _ = _
  cases semE S run a δ μ with
  | ok x m =>
    show (((semE S run b δ m).bind _).bind _).bind _ = (semE S run b δ m).bind _
    cases semE S run b δ m with
    | ok y m => rfl
    | exc c fs m => rfl
    | stuck => rfl
  | exc c fs m => rfl
  | stuck => rfl
theorem s_set_ (i : Nat) (e : JE) : semS S run (.set i e) δ μ = (semE S run e δ μ).toS δ fun d m => .nx (δ.set i (some d)) m := id rfl
theorem s_par_ (i j : Nat) (a b : JE) : semS S run (.par i j a b) δ μ = (semA S run (.cons a (.cons b .nil)) δ μ).toS δ fun ds m => match ds with
  | [a, b] => .nx ((δ.set i (some a)).set j (some b)) m
  | _ => .stuck := id rfl
theorem s_unp_ (is : List Nat) (e : JE) : semS S run (.unp is e) δ μ = (semE S run e δ μ).toS δ fun d m => match d with
  | .tup ds => (match setAll is ds δ with
    | some δ' => .nx δ' m
    | none => .stuck)
  | _ => .stuck := id rfl
theorem s_ret_ (e : JE) : semS S run (.ret e) δ μ = (semE S run e δ μ).toS δ fun d m => .ret d m := id rfl
theorem s_retN_ : semS S run .retN δ μ = .ret .non μ := id rfl
theorem s_drop_ (e : JE) : semS S run (.drop e) δ μ = (semE S run e δ μ).toS δ fun _ m => .nx δ m := id rfl
theorem s_ife_ (c : JT) (a b : JB) : semS S run (.ife c a b) δ μ = (semT S run c δ μ).toS δ fun t m => if t = true then semB S run a δ m else semB S run b δ m := id rfl
theorem s_wh_ (c : JT) (b : JB) : semS S run (.wh c b) δ μ = sWhile (whileF (semT S run c) (semB S run b)) (semT S run c) (semB S run b) δ μ := id rfl
theorem s_fr_ (t : Tg) (it : JI) (b : JB) : semS S run (.fr t it b) δ μ = (semI S run it δ μ).toS δ fun p m => forG t (semB S run b) p.2 p.1 δ m := id rfl
theorem s_brk_ : semS S run .brk δ μ = .brk δ μ := id rfl
theorem s_ct_ : semS S run .ct δ μ = .ct δ μ := id rfl
theorem s_pass_ : semS S run .pass δ μ = .nx δ μ := id rfl
theorem s_never_ : semS S run .never δ μ = .stuck := id rfl
def putIx (δ : Env3) (d : D) (o i : D) (μ : Mu) : RS := match o, i with
  | .cell j, .int k => (match μ[j]? with
    | some (.lst ds) => (match ixN ds.length k with
      | some n => .nx δ (μ.set j (.lst (ds.set n d)))
      | none => .stuck)
    | _ => .stuck)
  | _, _ => .stuck
theorem s_setIx_ (o i e : JE) : semS S run (.setIx o i e) δ μ = (semE S run e δ μ).toS δ fun d μ => (semE S run o δ μ).toS δ fun o μ => (semE S run i δ μ).toS δ fun i μ => putIx δ d o i μ := id rfl
def putAttr (S : Sig) (x : Str) (δ : Env3) (d : D) (o : D) (μ : Mu) : RS := match o with
  | .cell i => (match μ[i]? with
    | some (.ins c ds) => (match S.fld c x with
      | some j => if j < ds.length then .nx δ (μ.set i (.ins c (ds.set j d))) else if j = ds.length then .nx δ (μ.set i (.ins c (ds ++ [d]))) else .stuck
      | none => .stuck)
    | _ => .stuck)
  | _ => .stuck
theorem s_setAttr_ (x : Str) (o e : JE) : semS S run (.setAttr x o e) δ μ = (semE S run e δ μ).toS δ fun d μ => (semE S run o δ μ).toS δ fun o μ => putAttr S x δ d o μ := id rfl
theorem x_comp (own : List (Str × Nat)) (t : Tg) (it : JI) (c : JC) (e : JE) : semE S run (.comp own t it c e) δ μ = (semI S run it δ μ).bind fun p m => compG p.2 t (semC S run c) (semE S run e) m.length (wipeD δ (own.map (·.2))) p.1 (m ++ [.lst []]) := id rfl
theorem x_bm (m : BM) (o : JE) (es : JA) : semE S run (.bm m o es) δ μ = (semE S run o δ μ).bind fun x μ => bmS m x (semA S run es δ) μ := id rfl
theorem x_dnew : semE S run .dnew δ μ = .ok (.cell μ.length) (μ ++ [.dct []]) := id rfl
theorem wipeD_nil {δ : Env3} : wipeD δ [] = δ := id rfl
theorem wipeD_cons {δ : Env3} {v : Nat} {vs : List Nat} : wipeD δ (v :: vs) = (wipeD δ vs).set v none := id rfl
theorem x_cnone : semC S run .none δ μ = .ok true μ := id rfl
theorem x_csome (t : JT) : semC S run (.some t) δ μ = semT S run t δ μ := id rfl
theorem compL_nil {t : Tg} {Ft : FT} {Fe : FE} {p : Nat} : compL t Ft Fe p δ [] μ = .ok (.cell p) μ := id rfl
theorem compL_cons {t : Tg} {Ft : FT} {Fe : FE} {p : Nat} {d : D} {ds : List D} : compL t Ft Fe p δ (d :: ds) μ = (compT t Ft Fe p δ d μ).bind fun _ m => compL t Ft Fe p δ ds m := id rfl
theorem x_eFld (i : Nat) (x : Str) : semE S run (.eFld i x) δ μ = eFldS S i x δ μ := id rfl
theorem x_eIs (i : Nat) (t : XC) : semE S run (.eIs i t) δ μ = eIsS S i t δ μ := id rfl
theorem s_raise_ (c : Nat) (es : JA) : semS S run (.raise c es) δ μ = (semA S run es δ μ).toS δ fun ds m => raiseS S c δ ds m := id rfl
theorem s_raise0_ (c : Nat) : semS S run (.raise0 c) δ μ = raise0S S c δ μ := id rfl
theorem raise0_ok {c : Nat} (h : S.x0 c = true) : raise0S S c δ μ = .exc (.own c) none δ μ := if_pos h
theorem s_aug_ (i : Nat) (o : Operator) (e : JE) : semS S run (.aug i o e) δ μ = match δ[i]? with
  | some (some x) => (semE S run e δ μ).toS δ fun y m => (augS o x y m).toS δ fun z m => .nx (δ.set i (some z)) m
  | _ => .stuck := id rfl
theorem aug_add (i j : Int) : augS .Add (.int i) (.int j) μ = .ok (.int (i + j)) μ := id rfl
theorem aug_sub (i j : Int) : augS .Sub (.int i) (.int j) μ = .ok (.int (i - j)) μ := id rfl
theorem s_tryA_ (b : JB) (c : XC) (i : Nat) (h : JB) : semS S run (.tryA b c i h) δ μ = catchA S c i (semB S run h) (semB S run b δ μ) := id rfl
theorem s_tryO_ (b : JB) (c : XC) (h : JB) : semS S run (.tryO b c h) δ μ = catchO S c (semB S run h) (semB S run b δ μ) := id rfl
theorem raise_ok {c j : Nat} {ds : List D} (h1 : S.xin c = some j) (h2 : ds.length = (S.xfN c).length) : raiseS S c δ ds μ = .exc (.own c) (some ds) δ μ := by
  unfold raiseS
  rw [h1]
  exact if_pos h2
theorem catchA_nx {c : XC} {i : Nat} {h : FS} : catchA S c i h (.nx δ μ) = .nx δ μ := id rfl
theorem catchA_ret {c : XC} {i : Nat} {h : FS} {d : D} : catchA S c i h (.ret d μ) = .ret d μ := id rfl
theorem catchA_brk {c : XC} {i : Nat} {h : FS} : catchA S c i h (.brk δ μ) = .brk δ μ := id rfl
theorem catchA_ct {c : XC} {i : Nat} {h : FS} : catchA S c i h (.ct δ μ) = .ct δ μ := id rfl
theorem catchA_exc {t c : XC} {i : Nat} {h : FS} {fs : Option (List D)} (e : S.xsub t c = some true) : catchA S c i h (.exc t fs δ μ) = (h (δ.set i (some (.err t fs))) μ).gone i := by
  unfold catchA
  dsimp only
  rw [e]
theorem catchA_pass {t c : XC} {i : Nat} {h : FS} {fs : Option (List D)} (e : S.xsub t c = some false) : catchA S c i h (.exc t fs δ μ) = .exc t fs δ μ := by
  unfold catchA
  dsimp only
  rw [e]
theorem catchO_nx {c : XC} {h : FS} : catchO S c h (.nx δ μ) = .nx δ μ := id rfl
theorem catchO_ret {c : XC} {h : FS} {d : D} : catchO S c h (.ret d μ) = .ret d μ := id rfl
theorem catchO_brk {c : XC} {h : FS} : catchO S c h (.brk δ μ) = .brk δ μ := id rfl
theorem catchO_ct {c : XC} {h : FS} : catchO S c h (.ct δ μ) = .ct δ μ := id rfl
theorem catchO_exc {t c : XC} {h : FS} {fs : Option (List D)} (e : S.xsub t c = some true) : catchO S c h (.exc t fs δ μ) = (h δ μ).noX := by
  unfold catchO
  dsimp only
  rw [e]
theorem catchO_pass {t c : XC} {h : FS} {fs : Option (List D)} (e : S.xsub t c = some false) : catchO S c h (.exc t fs δ μ) = .exc t fs δ μ := by
  unfold catchO
  dsimp only
  rw [e]
theorem gone_nx {i : Nat} : (RS.nx δ μ).gone i = .nx (δ.set i none) μ := id rfl
theorem gone_ret {i : Nat} {d : D} : (RS.ret d μ).gone i = .ret d μ := id rfl
theorem gone_brk {i : Nat} : (RS.brk δ μ).gone i = .brk (δ.set i none) μ := id rfl
theorem gone_ct {i : Nat} : (RS.ct δ μ).gone i = .ct (δ.set i none) μ := id rfl
theorem noX_nx : (RS.nx δ μ).noX = .nx δ μ := id rfl
theorem noX_ret {d : D} : (RS.ret d μ).noX = .ret d μ := id rfl
theorem noX_brk : (RS.brk δ μ).noX = .brk δ μ := id rfl
theorem noX_ct : (RS.ct δ μ).noX = .ct δ μ := id rfl
theorem bind_exc {α β : Type} (c : XC) (fs : Option (List D)) (m : Mu) (g : α → Mu → Res β) : (Res.exc c fs m).bind g = .exc c fs m := id rfl
theorem toS_exc {α : Type} (c : XC) (fs : Option (List D)) (m : Mu) (g : α → Mu → RS) : (Res.exc c fs m).toS δ g = .exc c fs δ m := id rfl
theorem seq_exc (c : XC) (fs : Option (List D)) (m : Mu) (g : FS) : (RS.exc c fs δ m).seq g = .exc c fs δ m := id rfl
theorem loop_exc (c : XC) (fs : Option (List D)) (m : Mu) (g : FS) : (RS.exc c fs δ m).loop g = .exc c fs δ m := id rfl
theorem toR_exc (c : XC) (fs : Option (List D)) (m : Mu) : toR (.exc c fs δ m) = .exc c fs m := id rfl
theorem s_nil_ : semB S run .nil δ μ = .nx δ μ := id rfl
theorem s_cons_ (s : JS) (r : JB) : semB S run (.cons s r) δ μ = (semS S run s δ μ).seq (semB S run r) := id rfl
end
theorem bind_ok {α β : Type} (a : α) (m : Mu) (g : α → Mu → Res β) : (Res.ok a m).bind g = g a m := id rfl
theorem bind_ite {α β : Type} {c : Prop} [Decidable c] (a b : Res α) (g : α → Mu → Res β) : (if c then a else b).bind g = if c then a.bind g else b.bind g := by split <;> rfl
theorem toS_ok {α : Type} (a : α) (m : Mu) (δ : Env3) (g : α → Mu → RS) : (Res.ok a m).toS δ g = g a m := id rfl
theorem seq_nx (δ : Env3) (m : Mu) (g : FS) : (RS.nx δ m).seq g = g δ m := id rfl
theorem seq_ret (d : D) (m : Mu) (g : FS) : (RS.ret d m).seq g = .ret d m := id rfl
theorem seq_brk (δ : Env3) (m : Mu) (g : FS) : (RS.brk δ m).seq g = .brk δ m := id rfl
theorem seq_ct (δ : Env3) (m : Mu) (g : FS) : (RS.ct δ m).seq g = .ct δ m := id rfl
theorem seq_ite {c : Prop} [Decidable c] (a b : RS) (g : FS) : (if c then a else b).seq g = if c then a.seq g else b.seq g := by split <;> rfl
theorem loop_nx (δ : Env3) (m : Mu) (g : FS) : (RS.nx δ m).loop g = g δ m := id rfl
theorem loop_ct (δ : Env3) (m : Mu) (g : FS) : (RS.ct δ m).loop g = g δ m := id rfl
theorem loop_brk (δ : Env3) (m : Mu) (g : FS) : (RS.brk δ m).loop g = .nx δ m := id rfl
theorem loop_ret (d : D) (m : Mu) (g : FS) : (RS.ret d m).loop g = .ret d m := id rfl
theorem toR_ret (d : D) (m : Mu) : toR (.ret d m) = .ok d m := id rfl
theorem toR_nx (δ : Env3) (m : Mu) : toR (.nx δ m) = .ok .non m := id rfl
theorem bin_ints {S : Sig} {run : Nat → List D → PM D} (o : Operator) (i j : Int) (m : Mu) : binS S run o (.int i) (.int j) m = intB o i j m := id rfl
theorem cmp_ints {S : Sig} {run : Nat → List D → PM D} {o : CmpOp} (hI : o ≠ .Is) (hN : o ≠ .IsNot) (i j : Int) (m : Mu) (h1 : o ≠ .In := by decide) (h2 : o ≠ .NotIn := by decide) : cmpS S run o (.int i) (.int j) m = intC o i j m := by rw [cmpS_main hI hN h1 h2]; rfl
end L3


set_option maxRecDepth 100000
set_option maxHeartbeats 4000000
/-! L5c: numbers: sizes, fractions in lowest terms. -/
namespace L3
open PySem PySem.Spec PyProof.Rows L2
/-! ### sizes -/
abbrev Bd (k : Nat) (x : Int) : Prop := x.natAbs < 2 ^ k
theorem Bd.mono {k j : Nat} {x : Int} (h : Bd k x) (l : k ≤ j) : Bd j x := Nat.lt_of_lt_of_le h (Nat.pow_le_pow_right (by decide) l)
theorem Bd.mul {k j : Nat} {x y : Int} (h : Bd k x) (g : Bd j y) : Bd (k + j) (x * y) := by
  show (x * y).natAbs < 2 ^ (k + j)
  rw [Int.natAbs_mul, Nat.pow_add]
  exact Nat.mul_lt_mul'' h g
theorem Bd.add {k j : Nat} {x y : Int} (h : Bd k x) (g : Bd j y) : Bd (max k j + 1) (x + y) := by
  have h1 := Bd.mono h (Nat.le_max_left k j)
  have h2 := Bd.mono g (Nat.le_max_right k j)
  show (x + y).natAbs < 2 ^ (max k j + 1)
  have := Int.natAbs_add_le x y
  rw [Nat.pow_succ]
  have h1 : x.natAbs < 2 ^ (max k j) := h1
  have h2 : y.natAbs < 2 ^ (max k j) := h2
  omega
theorem Bd.neg {k : Nat} {x : Int} (h : Bd k x) : Bd k (-x) := by
  show (-x).natAbs < 2 ^ k
  rw [Int.natAbs_neg]
  exact h
theorem Bd.sub {k j : Nat} {x y : Int} (h : Bd k x) (g : Bd j y) : Bd (max k j + 1) (x - y) := by
  rw [Int.sub_eq_add_neg]
  exact h.add g.neg
theorem mulOk_bd {k j : Nat} {x y : Int} (h : Bd k x) (g : Bd j y) (l : k + j ≤ 134217728) : mulOk x y = true := by
  refine decide_eq_true ?_
  have h1 := PyProof.Rows.intBits_le h
  have h2 := PyProof.Rows.intBits_le g
  omega
theorem divOk_bd {k : Nat} {x y : Int} (h : y ≠ 0) (g : Bd k y) (l : k ≤ 9000) : divOk x y = true := by
  unfold divOk
  rw [Bool.and_eq_true, decide_eq_true_eq, decide_eq_true_eq]
  refine ⟨h, (Nat.log2_lt (by omega)).mpr (Nat.lt_of_lt_of_le g (Nat.pow_le_pow_right (by decide) l))⟩
theorem intB_mul {k j : Nat} {x y : Int} (h : Bd k x) (g : Bd j y) (l : k + j ≤ 134217728) (m : Mu) : intB .Mult x y m = .ok (.int (x * y)) m := by
  show (if mulOk x y = true then _ else _) = _
  rw [if_pos (mulOk_bd h g l)]
theorem intB_div {k : Nat} {x y : Int} (h : y ≠ 0) (g : Bd k y) (l : k ≤ 9000) (m : Mu) : intB .FloorDiv x y m = .ok (.int (x.fdiv y)) m := by
  show (if divOk x y = true then _ else _) = _
  rw [if_pos (divOk_bd h g l)]
theorem intB_mod {x y : Int} (h : y ≠ 0) (m : Mu) : intB .Mod x y m = .ok (.int (x.fmod y)) m := by
  show (if decide (y ≠ 0) = true then _ else _) = _
  rw [if_pos (decide_eq_true h)]
theorem intB_add (x y : Int) (m : Mu) : intB .Add x y m = .ok (.int (x + y)) m := rfl
theorem intB_sub (x y : Int) (m : Mu) : intB .Sub x y m = .ok (.int (x - y)) m := rfl
/-! ### lowest terms -/
def sg (t b : Int) : Int := if b < 0 then -t else t
def nT (t b : Int) : Int := (sg t b).fdiv (Int.gcd t b)
def nB (t b : Int) : Int := (sg b b).fdiv (Int.gcd t b)
theorem sg_abs (t b : Int) : (sg t b).natAbs = t.natAbs := by unfold sg; split <;> simp
theorem sg_self (b : Int) : sg b b = b.natAbs := by unfold sg; split <;> omega
theorem gcd_pos {t b : Int} (h : b ≠ 0) : 0 < Int.gcd t b := Int.gcd_pos_of_ne_zero_right _ h
theorem nT_eq {t b : Int} : nT t b = sg t b / (Int.gcd t b : Int) := Int.fdiv_eq_ediv_of_nonneg _ (Int.natCast_nonneg _)
theorem nB_eq {t b : Int} : nB t b = ((b.natAbs / Int.gcd t b : Nat) : Int) := by
  unfold nB
  rw [Int.fdiv_eq_ediv_of_nonneg _ (Int.natCast_nonneg _), sg_self]
  exact (Int.natCast_ediv _ _).symm
theorem nT_dvd {t b : Int} : (Int.gcd t b : Int) ∣ sg t b := by
  have h : (Int.gcd t b : Int) ∣ t := Int.gcd_dvd_left ..
  unfold sg
  split
  · exact Int.dvd_neg.mpr h
  · exact h
theorem nT_mul {t b : Int} : nT t b * (Int.gcd t b : Int) = sg t b := by
  rw [nT_eq]
  exact Int.ediv_mul_cancel nT_dvd
theorem nB_mul {t b : Int} : nB t b * (Int.gcd t b : Int) = b.natAbs := by
  rw [nB_eq]
  have h : Int.gcd t b ∣ b.natAbs := Nat.gcd_dvd_right ..
  exact_mod_cast Nat.div_mul_cancel h
theorem nT_abs {t b : Int} : (nT t b).natAbs = t.natAbs / Int.gcd t b := by
  rw [nT_eq, Int.natAbs_ediv_of_dvd nT_dvd, sg_abs]
  simp
theorem nB_abs {t b : Int} : (nB t b).natAbs = b.natAbs / Int.gcd t b := by rw [nB_eq, Int.natAbs_natCast]
theorem nB_pos {t b : Int} (h : b ≠ 0) : 0 < nB t b := by
  rw [nB_eq]
  have h1 : Int.gcd t b ≤ b.natAbs := Nat.le_of_dvd (by omega) (Nat.gcd_dvd_right ..)
  have h2 := Nat.div_pos h1 (gcd_pos (t := t) h)
  omega
theorem n_cop {t b : Int} (h : b ≠ 0) : Int.gcd (nT t b) (nB t b) = 1 := by
  unfold Int.gcd
  rw [nT_abs, nB_abs]
  exact Nat.coprime_div_gcd_div_gcd (gcd_pos h)
theorem nT_bd {t b : Int} {k : Nat} (h : Bd k t) : Bd k (nT t b) := by
  show (nT t b).natAbs < _
  rw [nT_abs]
  exact Nat.lt_of_le_of_lt (Nat.div_le_self ..) h
theorem nB_bd {t b : Int} {k : Nat} (h : Bd k b) : Bd k (nB t b) := by
  show (nB t b).natAbs < _
  rw [nB_abs]
  exact Nat.lt_of_le_of_lt (Nat.div_le_self ..) h
/-- the value -/
theorem n_val {t b : Int} (h : b ≠ 0) : nT t b * b = t * nB t b := by
  have g0 : (Int.gcd t b : Int) ≠ 0 := by have := gcd_pos (t := t) h; omega
  refine Int.eq_of_mul_eq_mul_right g0 ?_
  have e1 : nT t b * b * (Int.gcd t b : Int) = sg t b * b := by rw [Int.mul_assoc, Int.mul_comm b, ← Int.mul_assoc, nT_mul]
  have e2 : t * nB t b * (Int.gcd t b : Int) = t * (b.natAbs : Int) := by rw [Int.mul_assoc, nB_mul]
  rw [e1, e2]
  unfold sg
  split
  · have : (b.natAbs : Int) = -b := by omega
    rw [this, Int.neg_mul, Int.mul_neg]
  · have : (b.natAbs : Int) = b := by omega
    rw [this]
/-- equal values, both in lowest terms -/
theorem n_same {t b u d : Int} (hb : b ≠ 0) (hd : d ≠ 0) (h : t * d = u * b) : nT t b * d = u * nB t b := by
  refine Int.eq_of_mul_eq_mul_right hb ?_
  rw [Int.mul_assoc, Int.mul_comm d, ← Int.mul_assoc, n_val hb, Int.mul_assoc, Int.mul_comm _ d, ← Int.mul_assoc, h, Int.mul_assoc, Int.mul_comm b, ← Int.mul_assoc]
end L3

set_option maxRecDepth 100000
set_option maxHeartbeats 4000000
/-! L5d: comprehensions and frozen functions as pure facts. -/
namespace L3
open PySem PySem.Spec PyProof.Rows L2
theorem run_fz {S : Sig} {n i : Nat} {fi : Fd} {ds : List D} {μ : Mu} (e : S.fs[i]? = some fi) (z : fi.fz = true) (l : ds.length = fi.ps.length) :
    runS S (n + 1) i ds μ = (toR (semB S (runS S n) fi.body (ds.map some ++ List.replicate (fi.N.length - ds.length) none) μ)).bind fun d m => closeFz μ d m := by
  unfold runS
  rw [e]
  dsimp only
  rw [z, if_pos rfl]
  unfold fzF fnR
  rw [if_pos l]
  cases semB S (runS S n) fi.body (ds.map some ++ List.replicate (fi.N.length - ds.length) none) μ <;> rfl
theorem closeFz_low {μ j : Mu} {d : D} (h : D.low μ.length d = true) : closeFz μ d (μ ++ j) = .ok d μ := closeFz_app (fzD_low h)
theorem closeFz_lst {μ j : Mu} {ds : List D} (h : D.lows μ.length ds = true) : closeFz μ (.cell μ.length) (μ ++ .lst ds :: j) = .ok (.lst ds) μ := by
  refine closeFz_app ?_
  show (if D.low μ.length (.cell μ.length) = true then _ else _) = _
  rw [if_neg (by simp [D.low])]
  simp [mapO_low h]
theorem closeFz_insJ {μ j : Mu} {c : Nat} {ds : List D} (h : D.lows μ.length ds = true) : closeFz μ (.cell μ.length) (μ ++ .ins c ds :: j) = .ok (.ins c ds) μ := by
  refine closeFz_app ?_
  show (if D.low μ.length (.cell μ.length) = true then _ else _) = _
  rw [if_neg (by simp [D.low])]
  simp [mapO_low h]
/-! no cells -/
mutual
theorem D.low_mono {n k : Nat} (l : n ≤ k) : ∀ {d : D}, D.low n d = true → D.low k d = true
  | .tup xs, h => by simp only [D.low] at h ⊢; exact D.lows_mono l h
  | .lst xs, h => by simp only [D.low] at h ⊢; exact D.lows_mono l h
  | .klst xs, h => by simp only [D.low] at h ⊢; exact D.lows_mono l h
  | .ins _ vs, h => by simp only [D.low] at h ⊢; exact D.lows_mono l h
  | .cell i, h => by
    simp only [D.low, decide_eq_true_eq] at h ⊢
    omega
  | .non, _ => by simp only [D.low]
  | .bl _, _ => by simp only [D.low]
  | .int _, _ => by simp only [D.low]
  | .str _, _ => by simp only [D.low]
  | .ty _, _ => by simp only [D.low]
  | .fn _, _ => by simp only [D.low]
  | .err _ _, h => by simp only [D.low] at h ⊢ <;> exact h
theorem D.lows_mono {n k : Nat} (l : n ≤ k) : ∀ {ds : List D}, D.lows n ds = true → D.lows k ds = true
  | [], _ => by simp only [D.lows]
  | d :: ds, h => by
    simp only [D.lows, Bool.and_eq_true] at h ⊢
    exact ⟨D.low_mono l h.1, D.lows_mono l h.2⟩
end
theorem low0 {n : Nat} {d : D} (h : D.low 0 d = true) : D.low n d = true := D.low_mono (Nat.zero_le _) h
theorem lows0 {n : Nat} {ds : List D} (h : D.lows 0 ds = true) : D.lows n ds = true := D.lows_mono (Nat.zero_le _) h
theorem lows_app {n : Nat} : ∀ {as bs : List D}, D.lows n (as ++ bs) = (D.lows n as && D.lows n bs)
  | [], bs => by simp [D.lows]
  | a :: as, bs => by
    rw [List.cons_append, D.lows, D.lows, lows_app, Bool.and_assoc]
theorem lows_all {n : Nat} : ∀ {ds : List D}, (∀ d ∈ ds, D.low n d = true) → D.lows n ds = true
  | [], _ => by simp [D.lows]
  | d :: ds, h => by
    rw [D.lows, h d (List.mem_cons_self ..), lows_all fun x hx => h x (List.mem_cons_of_mem _ hx)]
    rfl
/-! blocks in parts -/
def takeB : Nat → JB → JB
  | 0, _ => .nil
  | n + 1, .cons s r => .cons s (takeB n r)
  | _ + 1, .nil => .nil
def restB : Nat → JB → JB
  | 0, b => b
  | n + 1, .cons _ r => restB n r
  | _ + 1, .nil => .nil
theorem seq_seq {r : RS} {g h : FS} : (r.seq g).seq h = r.seq fun δ μ => (g δ μ).seq h := by cases r <;> rfl
theorem semB_split {S : Sig} {run : Nat → List D → PM D} : ∀ (n : Nat) (b : JB) (δ : Env3) (μ : Mu), semB S run b δ μ = (semB S run (takeB n b) δ μ).seq (semB S run (restB n b))
  | 0, b, δ, μ => rfl
  | n + 1, .nil, δ, μ => rfl
  | n + 1, .cons s r, δ, μ => by
    show (semS S run s δ μ).seq (semB S run r) = ((semS S run s δ μ).seq (semB S run (takeB n r))).seq (semB S run (restB n r))
    rw [seq_seq]
    congr 1
    funext δ μ
    exact semB_split n r δ μ
/-! comprehensions -/
theorem grow_at {μ j : Mu} {acc : List D} {v : D} (h : acc.length < 1000000) : growS μ.length v (μ ++ .lst acc :: j) = .ok () (μ ++ .lst (acc ++ [v]) :: j) := by
  unfold growS
  rw [show (μ ++ Cel.lst acc :: j)[μ.length]? = some (.lst acc) by simp]
  dsimp only
  rw [if_pos h, List.set_append_right _ _ (Nat.le_refl _), Nat.sub_self]
  rfl
/-- each element by itself, some left out -/
theorem compL_pure {t : Tg} {Ft : FT} {Fe : FE} {δ : Env3} {μ j : Mu} {f : D → D} {g : D → Bool} : ∀ (ds acc : List D), acc.length + ds.length ≤ 1000000 →
    (∀ d ∈ ds, ∃ δ', t.put d δ = some δ' ∧ ∀ a, Ft δ' (μ ++ .lst a :: j) = .ok (g d) (μ ++ .lst a :: j) ∧ (g d = true → Fe δ' (μ ++ .lst a :: j) = .ok (f d) (μ ++ .lst a :: j))) →
    compL t Ft Fe μ.length δ ds (μ ++ .lst acc :: j) = .ok (.cell μ.length) (μ ++ .lst (acc ++ (ds.filter g).map f) :: j)
  | [], acc, _, _ => by rw [compL_nil]; simp
  | d :: ds, acc, hl, h => by
    obtain ⟨δ', e, q⟩ := h d (List.mem_cons_self ..)
    obtain ⟨q1, q2⟩ := q acc
    have ih := fun acc hl => compL_pure ds acc hl fun x hx => h x (List.mem_cons_of_mem _ hx)
    rw [compL_cons]
    unfold compT
    rw [e]
    dsimp only
    rw [q1, bind_ok]
    simp only [List.length_cons] at hl
    cases hg : g d with
    | false =>
      rw [if_neg (by decide)]
      show compL t Ft Fe μ.length δ ds (μ ++ .lst acc :: j) = _
      rw [ih acc (by omega), List.filter_cons_of_neg (by rw [hg]; decide)]
    | true =>
      rw [if_pos rfl, q2 hg, bind_ok, grow_at (by omega)]
      show compL t Ft Fe μ.length δ ds (μ ++ .lst (acc ++ [f d]) :: j) = _
      rw [ih (acc ++ [f d]) (by simp; omega), List.filter_cons_of_pos (by rw [hg]), List.map_cons, List.append_assoc]
      rfl
theorem comp_map {t : Tg} {Ft : FT} {Fe : FE} {δ : Env3} {μ : Mu} {f : D → D} {ds : List D} (hl : ds.length ≤ 1000000)
    (h : ∀ d ∈ ds, ∃ δ', t.put d δ = some δ' ∧ ∀ a, Ft δ' (μ ++ [.lst a]) = .ok true (μ ++ [.lst a]) ∧ Fe δ' (μ ++ [.lst a]) = .ok (f d) (μ ++ [.lst a])) :
    compG [] t Ft Fe μ.length δ ds (μ ++ [.lst []]) = .ok (.cell μ.length) (μ ++ [.lst (ds.map f)]) := by
  rw [compG_nil]
  have q := compL_pure (t := t) (Ft := Ft) (Fe := Fe) (δ := δ) (μ := μ) (j := []) (f := f) (g := fun _ => true) ds [] (by simpa using hl) fun d hd => by
    obtain ⟨δ', e, q⟩ := h d hd
    exact ⟨δ', e, fun a => ⟨(q a).1, fun _ => (q a).2⟩⟩
  rw [q, List.nil_append, List.filter_eq_self.mpr fun _ _ => rfl]
/-- each element drawn from the cell behind μ -/
theorem compL_seq {t : Tg} {Ft : FT} {Fe : FE} {δ : Env3} {μ : Mu} {P : Nat → Cel → Prop} {R : D → Prop} {s B : Nat}
    (hF : ∀ m cl, P m cl → m ≤ B → ∃ x cl', R x ∧ P (m + s) cl' ∧ ∀ d δ', t.put d δ = some δ' → ∀ ρ, Ft δ' (μ ++ cl :: ρ) = .ok true (μ ++ cl :: ρ) ∧ Fe δ' (μ ++ cl :: ρ) = .ok x (μ ++ cl' :: ρ)) :
    ∀ (ds : List D) (m : Nat) (cl : Cel) (acc : List D), (∀ d ∈ ds, ∃ δ', t.put d δ = some δ') → P m cl → m + s * ds.length ≤ B → acc.length + ds.length ≤ 1000000 →
    ∃ xs cl', xs.length = ds.length ∧ (∀ x ∈ xs, R x) ∧ P (m + s * ds.length) cl' ∧ ∀ (ρ : Mu) (p : Nat), p = (μ ++ cl :: ρ).length → compL t Ft Fe p δ ds (μ ++ cl :: (ρ ++ [.lst acc])) = .ok (.cell p) (μ ++ cl' :: (ρ ++ [.lst (acc ++ xs)]))
  | [], m, cl, acc, _, h, _, _ => by
    refine ⟨[], cl, rfl, fun x hx => absurd hx (List.not_mem_nil), h, fun ρ p _ => ?_⟩
    rw [compL_nil, List.append_nil]
  | d :: ds, m, cl, acc, hp, h, hb, hl => by
    simp only [List.length_cons] at hb hl
    obtain ⟨δ', ed⟩ := hp d (List.mem_cons_self ..)
    obtain ⟨x, c1, r, h1, e⟩ := hF m cl h (by omega)
    have sm : m + s + s * ds.length = m + s * (ds.length + 1) := by rw [Nat.mul_add, Nat.mul_one]; omega
    obtain ⟨xs, c2, l2, r2, h2, e2⟩ := compL_seq hF ds (m + s) c1 (acc ++ [x]) (fun y hy => hp y (List.mem_cons_of_mem _ hy)) h1 (by omega) (by simp; omega)
    refine ⟨x :: xs, c2, by simp [l2], fun y hy => ?_, by rw [List.length_cons, ← sm]; exact h2, fun ρ p hpp => ?_⟩
    · rcases List.mem_cons.mp hy with rfl | hy
      · exact r
      · exact r2 y hy
    · rw [compL_cons]
      unfold compT
      rw [ed]
      obtain ⟨q1, q2⟩ := e d δ' ed (ρ ++ [.lst acc])
      dsimp only
      rw [q1, bind_ok, if_pos rfl, q2, bind_ok]
      have g := grow_at (μ := μ ++ c1 :: ρ) (j := []) (acc := acc) (v := x) (by omega)
      have pl : p = (μ ++ c1 :: ρ).length := by rw [hpp]; simp
      rw [← pl] at g
      have a1 : μ ++ c1 :: ρ ++ [.lst acc] = μ ++ c1 :: (ρ ++ [.lst acc]) := by simp
      have a2 : μ ++ c1 :: ρ ++ [.lst (acc ++ [x])] = μ ++ c1 :: (ρ ++ [.lst (acc ++ [x])]) := by simp
      rw [a1, a2] at g
      rw [g]
      show (Res.ok () _).bind _ = _
      rw [bind_ok, e2 ρ p pl, List.append_assoc]
      rfl
/-- .. over a cell that stays -/
theorem compG_pure {t : Tg} {Ft : FT} {Fe : FE} {δ : Env3} {μ j : Mu} {f : D → D} {g : D → Bool} {gs : List (Nat × List D)} (hg : ∀ a, gOk gs (μ ++ .lst a :: j)) : ∀ (ds acc : List D), acc.length + ds.length ≤ 1000000 →
    (∀ d ∈ ds, ∃ δ', t.put d δ = some δ' ∧ ∀ a, Ft δ' (μ ++ .lst a :: j) = .ok (g d) (μ ++ .lst a :: j) ∧ (g d = true → Fe δ' (μ ++ .lst a :: j) = .ok (f d) (μ ++ .lst a :: j))) →
    compG gs t Ft Fe μ.length δ ds (μ ++ .lst acc :: j) = .ok (.cell μ.length) (μ ++ .lst (acc ++ (ds.filter g).map f) :: j)
  | [], acc, _, _ => by
    show (if gOk gs (μ ++ .lst acc :: j) then _ else _) = _
    rw [if_pos (hg acc)]
    simp
  | d :: ds, acc, hl, h => by
    obtain ⟨δ', e, q⟩ := h d (List.mem_cons_self ..)
    obtain ⟨q1, q2⟩ := q acc
    have ih := fun acc hl => compG_pure hg ds acc hl fun x hx => h x (List.mem_cons_of_mem _ hx)
    show (if gOk gs (μ ++ .lst acc :: j) then (compT t Ft Fe μ.length δ d (μ ++ .lst acc :: j)).bind fun _ μ' => compG gs t Ft Fe μ.length δ ds μ' else _) = _
    rw [if_pos (hg acc)]
    unfold compT
    rw [e]
    dsimp only
    rw [q1, bind_ok]
    simp only [List.length_cons] at hl
    cases hg' : g d with
    | false =>
      rw [if_neg (by decide)]
      show compG gs t Ft Fe μ.length δ ds (μ ++ .lst acc :: j) = _
      rw [ih acc (by omega), List.filter_cons_of_neg (by rw [hg']; decide)]
    | true =>
      rw [if_pos rfl, q2 hg', bind_ok, grow_at (by omega)]
      show compG gs t Ft Fe μ.length δ ds (μ ++ .lst (acc ++ [f d]) :: j) = _
      rw [ih (acc ++ [f d]) (by simp; omega), List.filter_cons_of_pos (by rw [hg']), List.map_cons, List.append_assoc]
      rfl
end L3

set_option maxRecDepth 100000
set_option maxHeartbeats 0
namespace K04
open PySem PySem.Spec PyProof.Rows L2 L3
def top (i : Nat) : Stmt := PySem.Challenge.pw_alignscripts_k04_ratio_refusals.main.body.getD i (.Pass ⟨0, 0, 0, 0⟩)
def sub (s : Stmt) (i : Nat) : Stmt := match s with
  | .ClassDef _ _ _ b _ _ _ _ _ _ _ => b.getD i (.Pass ⟨0, 0, 0, 0⟩)
  | _ => .Pass ⟨0, 0, 0, 0⟩
/-- is_integer -/
def b0 : JB :=
  (.cons (.ret (.and (.bi .isinstance (.cons (.var 0) (.cons (.glo 1) .nil))) (.not (.bi .isinstance (.cons (.var 0) (.cons (.glo 0) .nil)))))) .nil)
def f0 : Fd := { d := ⟨("is_integer", none), "is_integer", "is_integer", defArgs (top 9), defBody (top 9), defScope (top 9), [], []⟩, N := ["value"], ps := ["value"], dds := [], body := b0, fz := false }
/-- common_divisor -/
def b1 : JB :=
  (.cons (.par 0 1 (.bi .abs (.cons (.var 0) .nil)) (.bi .abs (.cons (.var 1) .nil))) (.cons (.wh (.val (.cmp .Gt (.var 1) (.int 0))) (.cons (.par 0 1 (.var 1) (.bin .Mod (.var 0) (.var 1))) .nil)) (.cons (.ret (.var 0)) .nil)))
def f1 : Fd := { d := ⟨("common_divisor", none), "common_divisor", "common_divisor", defArgs (top 10), defBody (top 10), defScope (top 10), [], []⟩, N := ["one", "other"], ps := ["one", "other"], dds := [], body := b1, fz := false }
/-- is_number -/
def b2 : JB :=
  (.cons (.ret (.or (.bi .isinstance (.cons (.var 0) (.cons (.glo 2) .nil))) (.call 0 (.cons (.var 0) .nil)))) .nil)
def f2 : Fd := { d := ⟨("is_number", none), "is_number", "is_number", defArgs (top 12), defBody (top 12), defScope (top 12), [], []⟩, N := ["value"], ps := ["value"], dds := [], body := b2, fz := false }
/-- parts_of -/
def b3 : JB :=
  (.cons (.ife (.val (.bi .isinstance (.cons (.var 0) (.cons (.glo 2) .nil)))) (.cons (.ret (.tup (.cons (.attr "top" (.var 0)) (.cons (.attr "bottom" (.var 0)) .nil)))) .nil) .nil) (.cons (.ret (.tup (.cons (.var 0) (.cons (.int 1) .nil)))) .nil))
def f3 : Fd := { d := ⟨("parts_of", none), "parts_of", "parts_of", defArgs (top 13), defBody (top 13), defScope (top 13), [], []⟩, N := ["number"], ps := ["number"], dds := [], body := b3, fz := false }
/-- power_of -/
def b4 : JB :=
  (.cons (.ife (.or (.not (.val (.call 0 (.cons (.var 2) .nil)))) (.or (.val (.cmp .Lt (.var 2) (.un .USub (.glo 3)))) (.val (.cmp .Gt (.var 2) (.glo 3))))) (.cons (.raise 1 (.cons (.str "power") .nil)) .nil) .nil) (.cons (.ife (.and (.val (.cmp .Lt (.var 2) (.int 0))) (.val (.cmp .Eq (.var 0) (.int 0)))) (.cons (.raise 1 (.cons (.str "zero") .nil)) .nil) .nil) (.cons (.set 3 (.int 1)) (.cons (.set 4 (.int 1)) (.cons (.fr (.one 5) (.range1 (.bi .abs (.cons (.var 2) .nil))) (.cons (.set 3 (.bin .Mult (.var 3) (.var 0))) (.cons (.set 4 (.bin .Mult (.var 4) (.var 1))) .nil))) (.cons (.ife (.val (.cmp .Lt (.var 2) (.int 0))) (.cons (.ret (.mk 3 (.cons (.var 4) (.cons (.var 3) .nil)))) .nil) .nil) (.cons (.ret (.mk 3 (.cons (.var 3) (.cons (.var 4) .nil)))) .nil)))))))
def f4 : Fd := { d := ⟨("power_of", none), "power_of", "power_of", defArgs (top 14), defBody (top 14), defScope (top 14), [], []⟩, N := ["top", "bottom", "k", "new_top", "new_bottom", "_"], ps := ["top", "bottom", "k"], dds := [], body := b4, fz := false }
/-- whole_of -/
def b5 : JB :=
  (.cons (.ife (.or (.val (.cmp .Eq (.bi .len (.cons (.var 0) .nil)) (.int 0))) (.val (.cmp .Gt (.bi .len (.cons (.var 0) .nil)) (.glo 5)))) (.cons (.ret .non) .nil) .nil) (.cons (.fr (.one 1) (.txt (.var 0)) (.cons (.ife (.val (.cmp .NotIn (.var 1) (.glo 4))) (.cons (.ret .non) .nil) .nil) .nil)) (.cons (.ife (.and (.val (.cmp .Gt (.bi .len (.cons (.var 0) .nil)) (.int 1))) (.val (.cmp .Eq (.ix (.var 0) (.int 0)) (.str "0")))) (.cons (.ret .non) .nil) .nil) (.cons (.ret (.bi .int (.cons (.var 0) .nil))) .nil))))
def f5 : Fd := { d := ⟨("whole_of", none), "whole_of", "whole_of", defArgs (top 15), defBody (top 15), defScope (top 15), [], []⟩, N := ["text", "sign"], ps := ["text"], dds := [], body := b5, fz := false }
/-- _law_stream -/
def b6 : JB :=
  (.cons (.ife (.val (.cmp .GtE (.var 0) (.bin .Pow (.int 10) (.int 18)))) (.cons (.ret (.lstC (.cons (.var 0) (.cons (.bin .Mod (.bi .int (.cons (.var 0) .nil)) (.int 2147483629)) (.cons (.int 0) .nil))))) .nil) .nil) (.cons (.ret (.lstC (.cons (.int 0) (.cons (.bin .Mod (.bi .int (.cons (.var 0) .nil)) (.int 2147483629)) (.cons (.int 0) .nil))))) .nil))
def f6 : Fd := { d := ⟨("_law_stream", none), "_law_stream", "_law_stream", defArgs (top 17), defBody (top 17), defScope (top 17), [], []⟩, N := ["_law_cell"], ps := ["_law_cell"], dds := [], body := b6, fz := false }
/-- _law_draw -/
def b7 : JB :=
  (.cons (.ife (.val (.cmp .Gt (.ix (.var 0) (.int 0)) (.int 0))) (.cons (.set 2 (.bin .Mod (.bi .int (.cons (.ix (.var 0) (.int 0)) .nil)) (.var 1))) (.cons (.setIx (.var 0) (.int 0) (.bin .FloorDiv (.ix (.var 0) (.int 0)) (.var 1))) (.cons (.ret (.var 2)) .nil))) .nil) (.cons (.setIx (.var 0) (.int 2) (.bin .Add (.ix (.var 0) (.int 2)) (.int 1))) (.cons (.set 3 (.bin .Mod (.bin .Mult (.bi .int (.cons (.bin .Add (.bin .Add (.ix (.var 0) (.int 1)) (.bin .Mult (.int 7919) (.ix (.var 0) (.int 2)))) (.int 1)) .nil)) (.int 48271)) (.int 2147483647))) (.cons (.set 3 (.bin .Mod (.bi .int (.cons (.bin .Mult (.var 3) (.bin .Add (.bin .FloorDiv (.var 3) (.int 1009)) (.int 69621))) .nil)) (.int 2147483647))) (.cons (.set 3 (.bin .Mod (.bi .int (.cons (.bin .Mult (.var 3) (.bin .Add (.bin .FloorDiv (.var 3) (.int 2003)) (.int 40692))) .nil)) (.int 2147483399))) (.cons (.ret (.bin .Mod (.bi .int (.cons (.bin .FloorDiv (.var 3) (.int 7)) .nil)) (.var 1))) .nil))))))
def f7 : Fd := { d := ⟨("_law_draw", none), "_law_draw", "_law_draw", defArgs (top 18), defBody (top 18), defScope (top 18), [], []⟩, N := ["_law_stream_here", "_law_limit", "_law_digit", "_law_number"], ps := ["_law_stream_here", "_law_limit"], dds := [], body := b7, fz := false }
/-- _law_top -/
def b8 : JB :=
  (.cons (.set 1 (.call 7 (.cons (.var 0) (.cons (.int 8) .nil)))) (.cons (.ife (.val (.cmp .Eq (.var 1) (.int 0))) (.cons (.ret (.bin .Sub (.call 7 (.cons (.var 0) (.cons (.bin .Add (.bin .Mult (.int 2) (.bin .Pow (.int 10) (.int 40))) (.int 1)) .nil))) (.bin .Pow (.int 10) (.int 40)))) .nil) .nil) (.cons (.ife (.val (.cmp .Eq (.var 1) (.int 1))) (.cons (.ret (.bin .Sub (.call 7 (.cons (.var 0) (.cons (.int 2001) .nil))) (.int 1000))) .nil) .nil) (.cons (.ret (.bin .Sub (.call 7 (.cons (.var 0) (.cons (.int 9) .nil))) (.int 4))) .nil))))
def f8 : Fd := { d := ⟨("_law_top", none), "_law_top", "_law_top", defArgs (top 19), defBody (top 19), defScope (top 19), [], []⟩, N := ["_law_stream_here", "_law_kind"], ps := ["_law_stream_here"], dds := [], body := b8, fz := false }
/-- _law_shared -/
def b9 : JB :=
  (.cons (.fr (.one 2) (.range1 (.int 1200)) (.cons (.ife (.val (.cmp .Eq (.var 1) (.int 0))) (.cons .brk .nil) .nil) (.cons (.set 3 (.bin .Mod (.bi .int (.cons (.var 0) .nil)) (.var 1))) (.cons (.set 0 (.var 1)) (.cons (.set 1 (.var 3)) .nil))))) (.cons (.ret (.var 0)) .nil))
def f9 : Fd := { d := ⟨("_law_shared", none), "_law_shared", "_law_shared", defArgs (top 20), defBody (top 20), defScope (top 20), [], []⟩, N := ["_law_one", "_law_other", "_law_k", "_law_rest"], ps := ["_law_one", "_law_other"], dds := [], body := b9, fz := false }
/-- _law_text -/
def b10 : JB :=
  (.cons (.set 1 (.bm .join (.str "") (.cons (.comp [("_law_k", 6)] (.one 6) (.range1 (.bin .Add (.int 1) (.call 7 (.cons (.var 0) (.cons (.int 62) .nil))))) .none (.ix (.str "0123456789") (.call 7 (.cons (.var 0) (.cons (.int 10) .nil))))) .nil))) (.cons (.set 2 (.ix (.str "0123456789") (.call 7 (.cons (.var 0) (.cons (.int 10) .nil))))) (.cons (.set 3 (.bm .join (.str "") (.cons (.comp [("_law_k", 6)] (.one 6) (.range1 (.bin .Add (.int 1) (.call 7 (.cons (.var 0) (.cons (.int 62) .nil))))) .none (.ix (.str "0123456789") (.call 7 (.cons (.var 0) (.cons (.int 10) .nil))))) .nil))) (.cons (.set 4 (.call 7 (.cons (.var 0) (.cons (.int 8) .nil)))) (.cons (.set 5 (.ix (.tup (.cons (.str "") (.cons (.str "-") .nil))) (.call 7 (.cons (.var 0) (.cons (.int 2) .nil))))) (.cons (.ife (.val (.cmp .Lt (.var 4) (.int 2))) (.cons (.ret (.bin .Add (.var 5) (.var 1))) .nil) .nil) (.cons (.ife (.val (.cmp .Lt (.var 4) (.int 5))) (.cons (.ret (.bin .Add (.bin .Add (.bin .Add (.var 5) (.var 2)) (.str "/")) (.bi .str (.cons (.call 7 (.cons (.var 0) (.cons (.int 12) .nil))) .nil)))) .nil) .nil) (.cons (.ife (.val (.cmp .Eq (.var 4) (.int 5))) (.cons (.ret (.bin .Add (.bin .Add (.bin .Add (.bin .Add (.bin .Add (.var 5) (.str "1")) (.sl true (.var 1) (.some (.int 1)) .none)) (.str "/")) (.str "7")) (.sl true (.var 3) (.some (.int 1)) .none))) .nil) .nil) (.cons (.ife (.val (.cmp .Eq (.var 4) (.int 6))) (.cons (.ret (.bin .Add (.var 5) (.var 2))) .nil) .nil) (.cons (.ret (.bin .Add (.bin .Add (.bin .Add (.var 5) (.var 1)) (.str "/")) (.var 3))) .nil))))))))))
def f10 : Fd := { d := ⟨("_law_text", none), "_law_text", "_law_text", defArgs (top 21), defBody (top 21), defScope (top 21), [], []⟩, N := ["_law_stream_here", "_law_digits", "_law_short", "_law_long", "_law_kind", "_law_sign", "_law_k"], ps := ["_law_stream_here"], dds := [], body := b10, fz := false }
/-- _law_changed -/
def b11 : JB :=
  (.cons (.set 2 (.str " !\"#$&'()*+,-./0123456789:;<=>?@ABCDEFGHIJKLMNOPQRSTUVWXYZ[\\]^_`abcdefghijklmnopqrstuvwxyz{|}~\n\t")) (.cons (.set 3 (.ix (.var 2) (.call 7 (.cons (.var 0) (.cons (.int 96) .nil))))) (.cons (.ife (.val (.cmp .Eq (.call 7 (.cons (.var 0) (.cons (.int 2) .nil))) (.int 0))) (.cons (.set 3 (.ix (.str "0123456789-/") (.call 7 (.cons (.var 0) (.cons (.int 12) .nil))))) .nil) .nil) (.cons (.set 4 (.call 7 (.cons (.var 0) (.cons (.bin .Add (.bi .len (.cons (.var 1) .nil)) (.int 1)) .nil)))) (.cons (.set 5 (.call 7 (.cons (.var 0) (.cons (.int 3) .nil)))) (.cons (.ife (.val (.cmp .Eq (.var 5) (.int 0))) (.cons (.ret (.bin .Add (.bin .Add (.sl true (.var 1) .none (.some (.var 4))) (.var 3)) (.sl true (.var 1) (.some (.var 4)) .none))) .nil) .nil) (.cons (.ife (.val (.cmp .Eq (.var 5) (.int 1))) (.cons (.ret (.bin .Add (.bin .Add (.sl true (.var 1) .none (.some (.var 4))) (.var 3)) (.sl true (.var 1) (.some (.bin .Add (.var 4) (.int 1))) .none))) .nil) .nil) (.cons (.ret (.bin .Add (.sl true (.var 1) .none (.some (.var 4))) (.sl true (.var 1) (.some (.bin .Add (.var 4) (.int 1))) .none))) .nil))))))))
def f11 : Fd := { d := ⟨("_law_changed", none), "_law_changed", "_law_changed", defArgs (top 22), defBody (top 22), defScope (top 22), [], []⟩, N := ["_law_stream_here", "_law_text_here", "_law_signs", "_law_sign", "_law_at", "_law_how"], ps := ["_law_stream_here", "_law_text_here"], dds := [], body := b11, fz := false }
/-- _law_whole -/
def b12 : JB :=
  (.cons (.ife (.or (.val (.cmp .Eq (.bi .len (.cons (.var 0) .nil)) (.int 0))) (.val (.cmp .Gt (.bi .len (.cons (.var 0) .nil)) (.int 60)))) (.cons (.ret (.un .USub (.int 1))) .nil) .nil) (.cons (.ife (.val (.cmp .Gt (.bi .len (.cons (.fz (.comp [("_law_sign", 1)] (.one 1) (.txt (.var 0)) (.some (.val (.cmp .NotIn (.var 1) (.str "0123456789")))) (.var 1))) .nil)) (.int 0))) (.cons (.ret (.un .USub (.int 1))) .nil) .nil) (.cons (.ife (.and (.val (.cmp .Eq (.ix (.var 0) (.int 0)) (.str "0"))) (.val (.cmp .Gt (.bi .len (.cons (.var 0) .nil)) (.int 1)))) (.cons (.ret (.un .USub (.int 1))) .nil) .nil) (.cons (.ret (.bi .int (.cons (.var 0) .nil))) .nil))))
def f12 : Fd := { d := ⟨("_law_whole", none), "_law_whole", "_law_whole", defArgs (top 23), defBody (top 23), defScope (top 23), [], []⟩, N := ["_law_text_here", "_law_sign"], ps := ["_law_text_here"], dds := [], body := b12, fz := false }
/-- _law_due -/
def b13 : JB :=
  (.cons (.set 1 (.var 0)) (.cons (.set 2 (.cmp .Eq (.sl false (.var 0) .none (.some (.int 1))) (.str "-"))) (.cons (.ife (.val (.var 2)) (.cons (.set 1 (.sl false (.var 0) (.some (.int 1)) .none)) .nil) .nil) (.cons (.set 3 (.bm .split (.var 1) (.cons (.str "/") .nil))) (.cons (.ife (.val (.cmp .Gt (.bi .len (.cons (.var 3) .nil)) (.int 2))) (.cons (.ret (.tup (.cons (.str "refused") (.cons (.str "text") .nil)))) .nil) .nil) (.cons (.set 4 (.call 12 (.cons (.ix (.var 3) (.int 0)) .nil))) (.cons (.set 5 (.int 1)) (.cons (.ife (.val (.cmp .Eq (.bi .len (.cons (.var 3) .nil)) (.int 2))) (.cons (.set 5 (.call 12 (.cons (.ix (.var 3) (.int 1)) .nil))) (.cons (.ife (.val (.cmp .Lt (.var 5) (.int 2))) (.cons (.ret (.tup (.cons (.str "refused") (.cons (.str "text") .nil)))) .nil) .nil) .nil)) .nil) (.cons (.ife (.or (.val (.cmp .Lt (.var 4) (.int 0))) (.or (.and (.val (.var 2)) (.val (.cmp .Eq (.var 4) (.int 0)))) (.val (.cmp .NotEq (.call 9 (.cons (.var 4) (.cons (.var 5) .nil))) (.int 1))))) (.cons (.ret (.tup (.cons (.str "refused") (.cons (.str "text") .nil)))) .nil) .nil) (.cons (.ife (.val (.var 2)) (.cons (.set 4 (.un .USub (.var 4))) .nil) .nil) (.cons (.ret (.tup (.cons (.str "told") (.cons (.var 4) (.cons (.var 5) .nil))))) .nil)))))))))))
def f13 : Fd := { d := ⟨("_law_due", none), "_law_due", "_law_due", defArgs (top 24), defBody (top 24), defScope (top 24), [], []⟩, N := ["_law_text_here", "_law_body", "_law_negative", "_law_parts", "_law_top_here", "_law_bottom"], ps := ["_law_text_here"], dds := [], body := b13, fz := false }
/-- _law_read -/
def b14 : JB :=
  (.cons (.set 1 .non) (.cons (.set 2 (.str "")) (.cons (.set 3 (.bl false)) (.cons (.tryA (.cons (.set 1 (.call 42 (.cons (.var 0) .nil))) .nil) (.own 1) 4 (.cons (.set 2 (.eFld 4 "word")) (.cons (.set 3 (.and (.eIs 4 (.own 0)) (.and (.eIs 4 (.ty "ValueError")) (.not (.eIs 4 (.own 2)))))) .nil))) (.cons (.ife (.val (.bi .isinstance (.cons (.var 1) (.cons (.glo 2) .nil)))) (.cons (.ret (.tup (.cons (.str "told") (.cons (.attr "top" (.var 1)) (.cons (.attr "bottom" (.var 1)) .nil))))) .nil) .nil) (.cons (.ife (.val (.var 3)) (.cons (.ret (.tup (.cons (.str "refused") (.cons (.var 2) .nil)))) .nil) .nil) (.cons (.ret (.tup (.cons (.str "none") .nil))) .nil)))))))
def f14 : Fd := { d := ⟨("_law_read", none), "_law_read", "_law_read", defArgs (top 25), defBody (top 25), defScope (top 25), [], []⟩, N := ["_law_text_here", "_law_told", "_law_word", "_law_fine", "e"], ps := ["_law_text_here"], dds := [], body := b14, fz := false }
/-- _law_made -/
def b15 : JB :=
  (.cons (.set 2 .non) (.cons (.set 3 (.str "")) (.cons (.tryA (.cons (.set 2 (.mk 3 (.cons (.var 0) (.cons (.var 1) .nil)))) .nil) (.own 1) 4 (.cons (.set 3 (.eFld 4 "word")) .nil)) (.cons (.ife (.val (.bi .isinstance (.cons (.var 2) (.cons (.glo 2) .nil)))) (.cons (.ret (.str "told")) .nil) .nil) (.cons (.ret (.var 3)) .nil)))))
def f15 : Fd := { d := ⟨("_law_made", none), "_law_made", "_law_made", defArgs (top 26), defBody (top 26), defScope (top 26), [], []⟩, N := ["_law_top_here", "_law_bottom", "_law_told", "_law_word", "e"], ps := ["_law_top_here", "_law_bottom"], dds := [], body := b15, fz := true }
/-- law -/
def b16 : JB :=
  (.cons (.fr (.one 1) (.seq (.sl false (.var 0) .none (.some (.int 40)))) (.cons (.set 2 (.call 6 (.cons (.var 1) .nil))) (.cons (.set 3 (.call 7 (.cons (.var 2) (.cons (.int 3) .nil)))) (.cons (.set 4 (.ix (.tup (.cons .non (.cons (.bl true) (.cons (.int 7) (.cons (.tup (.cons (.str "1") .nil)) (.cons (.lst (.cons (.str "1") .nil)) (.cons (.int 0) (.cons (.bl false) (.cons .dnew .nil))))))))) (.call 7 (.cons (.var 2) (.cons (.int 8) .nil))))) (.cons (.set 5 (.call 8 (.cons (.var 2) .nil))) (.cons (.set 6 (.ix (.tup (.cons .non (.cons (.bl true) (.cons (.str "3") (.cons (.tup (.cons (.str "1") .nil)) (.cons (.lst (.cons (.int 3) .nil)) (.cons (.str "") (.cons (.bl false) (.cons .dnew .nil))))))))) (.call 7 (.cons (.var 2) (.cons (.int 8) .nil))))) (.cons (.set 7 (.call 10 (.cons (.var 2) .nil))) (.cons (.fr (.one 8) (.range1 (.var 3)) (.cons (.set 7 (.call 11 (.cons (.var 2) (.cons (.var 7) .nil)))) .nil)) (.cons (.ife (.or (.val (.cmp .NotEq (.call 14 (.cons (.var 7) .nil)) (.call 13 (.cons (.var 7) .nil)))) (.val (.cmp .NotEq (.call 14 (.cons (.var 4) .nil)) (.tup (.cons (.str "refused") (.cons (.str "text") .nil)))))) (.cons (.ret (.bl false)) .nil) .nil) (.cons (.ife (.or (.val (.cmp .NotEq (.call 15 (.cons (.var 6) (.cons (.var 5) .nil))) (.str "top"))) (.or (.val (.cmp .NotEq (.call 15 (.cons (.var 6) (.cons (.var 6) .nil))) (.str "top"))) (.val (.cmp .NotEq (.call 15 (.cons (.var 6) (.cons (.int 0) .nil))) (.str "top"))))) (.cons (.ret (.bl false)) .nil) .nil) (.cons (.ife (.or (.val (.cmp .NotEq (.call 15 (.cons (.var 5) (.cons (.var 6) .nil))) (.str "bottom"))) (.or (.val (.cmp .NotEq (.call 15 (.cons (.var 5) (.cons (.int 0) .nil))) (.str "zero"))) (.val (.cmp .NotEq (.call 15 (.cons (.var 5) (.cons (.int 1) .nil))) (.str "told"))))) (.cons (.ret (.bl false)) .nil) .nil) (.cons (.ife (.or (.val (.cmp .NotEq (.call 15 (.cons (.mkK 0 3 (.cons (.var 5) .nil) .nil) (.cons (.int 1) .nil))) (.str "top"))) (.val (.cmp .NotEq (.call 15 (.cons (.var 5) (.cons (.mkK 0 3 (.cons (.int 1) .nil) .nil) .nil))) (.str "bottom")))) (.cons (.ret (.bl false)) .nil) .nil) .nil)))))))))))) (.cons (.set 9 (.bm .join (.str "") (.cons (.fz (.comp [("_law_k", 8)] (.one 8) (.range1 (.int 60)) .none (.str "9"))) .nil))) (.cons (.ife (.or (.val (.cmp .NotEq (.call 14 (.cons (.var 9) .nil)) (.tup (.cons (.str "told") (.cons (.bi .int (.cons (.var 9) .nil)) (.cons (.int 1) .nil)))))) (.val (.cmp .NotEq (.call 14 (.cons (.bin .Add (.var 9) (.str "9")) .nil)) (.tup (.cons (.str "refused") (.cons (.str "text") .nil)))))) (.cons (.ret (.bl false)) .nil) .nil) (.cons (.ife (.or (.val (.cmp .NotEq (.call 14 (.cons (.bin .Add (.str "1/") (.var 9)) .nil)) (.tup (.cons (.str "told") (.cons (.int 1) (.cons (.bi .int (.cons (.var 9) .nil)) .nil)))))) (.val (.cmp .NotEq (.call 14 (.cons (.bin .Add (.bin .Add (.str "1/") (.var 9)) (.str "9")) .nil)) (.tup (.cons (.str "refused") (.cons (.str "text") .nil)))))) (.cons (.ret (.bl false)) .nil) .nil) (.cons (.ret (.and (.cmp .Eq (.call 14 (.cons (.bm .join (.str "") (.cons (.fz (.comp [("_law_k", 8)] (.one 8) (.range1 (.int 1700)) .none (.var 9))) .nil)) .nil)) (.tup (.cons (.str "refused") (.cons (.str "text") .nil)))) (.cmp .Eq (.call 14 (.cons (.str "") .nil)) (.tup (.cons (.str "refused") (.cons (.str "text") .nil)))))) .nil)))))
def f16 : Fd := { d := ⟨("law", none), "law", "law", defArgs (top 27), defBody (top 27), defScope (top 27), [], []⟩, N := ["_law_script", "_law_cell", "_law_stream_here", "_law_edits", "_law_other", "_law_number", "_law_wrong", "_law_text_here", "_law_k", "_law_nines"], ps := ["_law_script"], dds := [], body := b16, fz := false }
/-- NoRatio.__init__ -/
def b17 : JB :=
  (.cons .never .nil)
def f17 : Fd := { d := ⟨("NoRatio", some "__init__"), "__init__", "NoRatio.__init__", defArgs (sub (top 3) 0), defBody (sub (top 3) 0), defScope (sub (top 3) 0), [], []⟩, N := ["self", "word"], ps := ["self", "word"], dds := [], body := b17, fz := false }
/-- NoBoxes.__init__ -/
def b18 : JB :=
  (.cons .never (.cons .never .nil))
def f18 : Fd := { d := ⟨("NoBoxes", some "__init__"), "__init__", "NoBoxes.__init__", defArgs (sub (top 4) 0), defBody (sub (top 4) 0), defScope (sub (top 4) 0), [], []⟩, N := ["self", "index", "part"], ps := ["self", "index", "part"], dds := [], body := b18, fz := false }
/-- Ratio.__init__ -/
def b19 : JB :=
  (.cons (.ife (.not (.val (.call 0 (.cons (.var 1) .nil)))) (.cons (.raise 1 (.cons (.str "top") .nil)) .nil) .nil) (.cons (.ife (.not (.val (.call 0 (.cons (.var 2) .nil)))) (.cons (.raise 1 (.cons (.str "bottom") .nil)) .nil) .nil) (.cons (.ife (.val (.cmp .Eq (.var 2) (.int 0))) (.cons (.raise 1 (.cons (.str "zero") .nil)) .nil) .nil) (.cons (.ife (.val (.cmp .Lt (.var 2) (.int 0))) (.cons (.par 1 2 (.un .USub (.var 1)) (.un .USub (.var 2))) .nil) .nil) (.cons (.set 3 (.call 1 (.cons (.var 1) (.cons (.var 2) .nil)))) (.cons (.setAttr "top" (.var 0) (.bin .FloorDiv (.var 1) (.var 3))) (.cons (.setAttr "bottom" (.var 0) (.bin .FloorDiv (.var 2) (.var 3))) .nil)))))))
def f19 : Fd := { d := ⟨("Ratio", some "__init__"), "__init__", "Ratio.__init__", defArgs (sub (top 11) 0), defBody (sub (top 11) 0), defScope (sub (top 11) 0), [.int 1], []⟩, N := ["self", "top", "bottom", "shared"], ps := ["self", "top", "bottom"], dds := [.int 1], body := b19, fz := false }
/-- Ratio.__add__ -/
def b20 : JB :=
  (.cons (.ife (.not (.val (.call 2 (.cons (.var 1) .nil)))) (.cons .never .nil) .nil) (.cons (.unp [2, 3] (.call 3 (.cons (.var 1) .nil))) (.cons (.ret (.mk 3 (.cons (.bin .Add (.bin .Mult (.attr "top" (.var 0)) (.var 3)) (.bin .Mult (.var 2) (.attr "bottom" (.var 0)))) (.cons (.bin .Mult (.attr "bottom" (.var 0)) (.var 3)) .nil)))) .nil)))
def f20 : Fd := { d := ⟨("Ratio", some "__add__"), "__add__", "Ratio.__add__", defArgs (sub (top 11) 1), defBody (sub (top 11) 1), defScope (sub (top 11) 1), [], []⟩, N := ["self", "other", "top", "bottom"], ps := ["self", "other"], dds := [], body := b20, fz := false }
/-- Ratio.__radd__ -/
def b21 : JB :=
  (.cons (.ife (.not (.val (.call 2 (.cons (.var 1) .nil)))) (.cons .never .nil) .nil) (.cons (.unp [2, 3] (.call 3 (.cons (.var 1) .nil))) (.cons (.ret (.mk 3 (.cons (.bin .Add (.bin .Mult (.attr "top" (.var 0)) (.var 3)) (.bin .Mult (.var 2) (.attr "bottom" (.var 0)))) (.cons (.bin .Mult (.attr "bottom" (.var 0)) (.var 3)) .nil)))) .nil)))
def f21 : Fd := { d := ⟨("Ratio", some "__radd__"), "__radd__", "Ratio.__radd__", defArgs (sub (top 11) 2), defBody (sub (top 11) 2), defScope (sub (top 11) 2), [], []⟩, N := ["self", "other", "top", "bottom"], ps := ["self", "other"], dds := [], body := b21, fz := false }
/-- Ratio.__sub__ -/
def b22 : JB :=
  (.cons (.ife (.not (.val (.call 2 (.cons (.var 1) .nil)))) (.cons .never .nil) .nil) (.cons (.unp [2, 3] (.call 3 (.cons (.var 1) .nil))) (.cons (.ret (.mk 3 (.cons (.bin .Sub (.bin .Mult (.attr "top" (.var 0)) (.var 3)) (.bin .Mult (.var 2) (.attr "bottom" (.var 0)))) (.cons (.bin .Mult (.attr "bottom" (.var 0)) (.var 3)) .nil)))) .nil)))
def f22 : Fd := { d := ⟨("Ratio", some "__sub__"), "__sub__", "Ratio.__sub__", defArgs (sub (top 11) 3), defBody (sub (top 11) 3), defScope (sub (top 11) 3), [], []⟩, N := ["self", "other", "top", "bottom"], ps := ["self", "other"], dds := [], body := b22, fz := false }
/-- Ratio.__rsub__ -/
def b23 : JB :=
  (.cons (.ife (.not (.val (.call 2 (.cons (.var 1) .nil)))) (.cons .never .nil) .nil) (.cons (.unp [2, 3] (.call 3 (.cons (.var 1) .nil))) (.cons (.ret (.mk 3 (.cons (.bin .Sub (.bin .Mult (.var 2) (.attr "bottom" (.var 0))) (.bin .Mult (.attr "top" (.var 0)) (.var 3))) (.cons (.bin .Mult (.attr "bottom" (.var 0)) (.var 3)) .nil)))) .nil)))
def f23 : Fd := { d := ⟨("Ratio", some "__rsub__"), "__rsub__", "Ratio.__rsub__", defArgs (sub (top 11) 4), defBody (sub (top 11) 4), defScope (sub (top 11) 4), [], []⟩, N := ["self", "other", "top", "bottom"], ps := ["self", "other"], dds := [], body := b23, fz := false }
/-- Ratio.__mul__ -/
def b24 : JB :=
  (.cons (.ife (.not (.val (.call 2 (.cons (.var 1) .nil)))) (.cons .never .nil) .nil) (.cons (.unp [2, 3] (.call 3 (.cons (.var 1) .nil))) (.cons (.ret (.mk 3 (.cons (.bin .Mult (.attr "top" (.var 0)) (.var 2)) (.cons (.bin .Mult (.attr "bottom" (.var 0)) (.var 3)) .nil)))) .nil)))
def f24 : Fd := { d := ⟨("Ratio", some "__mul__"), "__mul__", "Ratio.__mul__", defArgs (sub (top 11) 5), defBody (sub (top 11) 5), defScope (sub (top 11) 5), [], []⟩, N := ["self", "other", "top", "bottom"], ps := ["self", "other"], dds := [], body := b24, fz := false }
/-- Ratio.__rmul__ -/
def b25 : JB :=
  (.cons (.ife (.not (.val (.call 2 (.cons (.var 1) .nil)))) (.cons .never .nil) .nil) (.cons (.unp [2, 3] (.call 3 (.cons (.var 1) .nil))) (.cons (.ret (.mk 3 (.cons (.bin .Mult (.attr "top" (.var 0)) (.var 2)) (.cons (.bin .Mult (.attr "bottom" (.var 0)) (.var 3)) .nil)))) .nil)))
def f25 : Fd := { d := ⟨("Ratio", some "__rmul__"), "__rmul__", "Ratio.__rmul__", defArgs (sub (top 11) 6), defBody (sub (top 11) 6), defScope (sub (top 11) 6), [], []⟩, N := ["self", "other", "top", "bottom"], ps := ["self", "other"], dds := [], body := b25, fz := false }
/-- Ratio.__floordiv__ -/
def b26 : JB :=
  (.cons (.ife (.not (.val (.call 2 (.cons (.var 1) .nil)))) (.cons .never .nil) .nil) (.cons (.unp [2, 3] (.call 3 (.cons (.var 1) .nil))) (.cons (.ife (.val (.cmp .Eq (.var 2) (.int 0))) (.cons (.raise 1 (.cons (.str "zero") .nil)) .nil) .nil) (.cons (.ret (.bin .FloorDiv (.bin .Mult (.attr "top" (.var 0)) (.var 3)) (.bin .Mult (.attr "bottom" (.var 0)) (.var 2)))) .nil))))
def f26 : Fd := { d := ⟨("Ratio", some "__floordiv__"), "__floordiv__", "Ratio.__floordiv__", defArgs (sub (top 11) 7), defBody (sub (top 11) 7), defScope (sub (top 11) 7), [], []⟩, N := ["self", "other", "top", "bottom"], ps := ["self", "other"], dds := [], body := b26, fz := false }
/-- Ratio.__rfloordiv__ -/
def b27 : JB :=
  (.cons (.ife (.not (.val (.call 2 (.cons (.var 1) .nil)))) (.cons .never .nil) .nil) (.cons (.unp [2, 3] (.call 3 (.cons (.var 1) .nil))) (.cons (.ife (.val (.cmp .Eq (.attr "top" (.var 0)) (.int 0))) (.cons (.raise 1 (.cons (.str "zero") .nil)) .nil) .nil) (.cons (.ret (.bin .FloorDiv (.bin .Mult (.var 2) (.attr "bottom" (.var 0))) (.bin .Mult (.var 3) (.attr "top" (.var 0))))) .nil))))
def f27 : Fd := { d := ⟨("Ratio", some "__rfloordiv__"), "__rfloordiv__", "Ratio.__rfloordiv__", defArgs (sub (top 11) 8), defBody (sub (top 11) 8), defScope (sub (top 11) 8), [], []⟩, N := ["self", "other", "top", "bottom"], ps := ["self", "other"], dds := [], body := b27, fz := false }
/-- Ratio.__mod__ -/
def b28 : JB :=
  (.cons (.ife (.not (.val (.call 2 (.cons (.var 1) .nil)))) (.cons .never .nil) .nil) (.cons (.unp [2, 3] (.call 3 (.cons (.var 1) .nil))) (.cons (.ife (.val (.cmp .Eq (.var 2) (.int 0))) (.cons (.raise 1 (.cons (.str "zero") .nil)) .nil) .nil) (.cons (.set 4 (.bin .FloorDiv (.bin .Mult (.attr "top" (.var 0)) (.var 3)) (.bin .Mult (.attr "bottom" (.var 0)) (.var 2)))) (.cons (.ret (.mk 3 (.cons (.bin .Sub (.bin .Mult (.attr "top" (.var 0)) (.var 3)) (.bin .Mult (.bin .Mult (.var 2) (.var 4)) (.attr "bottom" (.var 0)))) (.cons (.bin .Mult (.attr "bottom" (.var 0)) (.var 3)) .nil)))) .nil)))))
def f28 : Fd := { d := ⟨("Ratio", some "__mod__"), "__mod__", "Ratio.__mod__", defArgs (sub (top 11) 9), defBody (sub (top 11) 9), defScope (sub (top 11) 9), [], []⟩, N := ["self", "other", "top", "bottom", "times"], ps := ["self", "other"], dds := [], body := b28, fz := false }
/-- Ratio.__rmod__ -/
def b29 : JB :=
  (.cons (.ife (.not (.val (.call 2 (.cons (.var 1) .nil)))) (.cons .never .nil) .nil) (.cons (.unp [2, 3] (.call 3 (.cons (.var 1) .nil))) (.cons (.ife (.val (.cmp .Eq (.attr "top" (.var 0)) (.int 0))) (.cons (.raise 1 (.cons (.str "zero") .nil)) .nil) .nil) (.cons (.set 4 (.bin .FloorDiv (.bin .Mult (.var 2) (.attr "bottom" (.var 0))) (.bin .Mult (.var 3) (.attr "top" (.var 0))))) (.cons (.ret (.mk 3 (.cons (.bin .Sub (.bin .Mult (.var 2) (.attr "bottom" (.var 0))) (.bin .Mult (.bin .Mult (.attr "top" (.var 0)) (.var 4)) (.var 3))) (.cons (.bin .Mult (.attr "bottom" (.var 0)) (.var 3)) .nil)))) .nil)))))
def f29 : Fd := { d := ⟨("Ratio", some "__rmod__"), "__rmod__", "Ratio.__rmod__", defArgs (sub (top 11) 10), defBody (sub (top 11) 10), defScope (sub (top 11) 10), [], []⟩, N := ["self", "other", "top", "bottom", "times"], ps := ["self", "other"], dds := [], body := b29, fz := false }
/-- Ratio.__neg__ -/
def b30 : JB :=
  (.cons (.ret (.mk 3 (.cons (.un .USub (.attr "top" (.var 0))) (.cons (.attr "bottom" (.var 0)) .nil)))) .nil)
def f30 : Fd := { d := ⟨("Ratio", some "__neg__"), "__neg__", "Ratio.__neg__", defArgs (sub (top 11) 11), defBody (sub (top 11) 11), defScope (sub (top 11) 11), [], []⟩, N := ["self"], ps := ["self"], dds := [], body := b30, fz := false }
/-- Ratio.__pos__ -/
def b31 : JB :=
  (.cons (.ret (.mk 3 (.cons (.attr "top" (.var 0)) (.cons (.attr "bottom" (.var 0)) .nil)))) .nil)
def f31 : Fd := { d := ⟨("Ratio", some "__pos__"), "__pos__", "Ratio.__pos__", defArgs (sub (top 11) 12), defBody (sub (top 11) 12), defScope (sub (top 11) 12), [], []⟩, N := ["self"], ps := ["self"], dds := [], body := b31, fz := false }
/-- Ratio.__abs__ -/
def b32 : JB :=
  (.cons (.ret (.mk 3 (.cons (.bi .abs (.cons (.attr "top" (.var 0)) .nil)) (.cons (.attr "bottom" (.var 0)) .nil)))) .nil)
def f32 : Fd := { d := ⟨("Ratio", some "__abs__"), "__abs__", "Ratio.__abs__", defArgs (sub (top 11) 13), defBody (sub (top 11) 13), defScope (sub (top 11) 13), [], []⟩, N := ["self"], ps := ["self"], dds := [], body := b32, fz := false }
/-- Ratio.__pow__ -/
def b33 : JB :=
  (.cons (.ret (.call 4 (.cons (.attr "top" (.var 0)) (.cons (.attr "bottom" (.var 0)) (.cons (.var 1) .nil))))) .nil)
def f33 : Fd := { d := ⟨("Ratio", some "__pow__"), "__pow__", "Ratio.__pow__", defArgs (sub (top 11) 14), defBody (sub (top 11) 14), defScope (sub (top 11) 14), [], []⟩, N := ["self", "other"], ps := ["self", "other"], dds := [], body := b33, fz := false }
/-- Ratio.__eq__ -/
def b34 : JB :=
  (.cons (.ife (.not (.val (.call 2 (.cons (.var 1) .nil)))) (.cons (.ret (.bl false)) .nil) .nil) (.cons (.unp [2, 3] (.call 3 (.cons (.var 1) .nil))) (.cons (.ret (.and (.cmp .Eq (.attr "top" (.var 0)) (.var 2)) (.cmp .Eq (.attr "bottom" (.var 0)) (.var 3)))) .nil)))
def f34 : Fd := { d := ⟨("Ratio", some "__eq__"), "__eq__", "Ratio.__eq__", defArgs (sub (top 11) 15), defBody (sub (top 11) 15), defScope (sub (top 11) 15), [], []⟩, N := ["self", "other", "top", "bottom"], ps := ["self", "other"], dds := [], body := b34, fz := false }
/-- Ratio.__lt__ -/
def b35 : JB :=
  (.cons (.ife (.not (.val (.call 2 (.cons (.var 1) .nil)))) (.cons .never .nil) .nil) (.cons (.unp [2, 3] (.call 3 (.cons (.var 1) .nil))) (.cons (.ret (.cmp .Lt (.bin .Mult (.attr "top" (.var 0)) (.var 3)) (.bin .Mult (.var 2) (.attr "bottom" (.var 0))))) .nil)))
def f35 : Fd := { d := ⟨("Ratio", some "__lt__"), "__lt__", "Ratio.__lt__", defArgs (sub (top 11) 16), defBody (sub (top 11) 16), defScope (sub (top 11) 16), [], []⟩, N := ["self", "other", "top", "bottom"], ps := ["self", "other"], dds := [], body := b35, fz := false }
/-- Ratio.__le__ -/
def b36 : JB :=
  (.cons (.ife (.not (.val (.call 2 (.cons (.var 1) .nil)))) (.cons .never .nil) .nil) (.cons (.unp [2, 3] (.call 3 (.cons (.var 1) .nil))) (.cons (.ret (.cmp .LtE (.bin .Mult (.attr "top" (.var 0)) (.var 3)) (.bin .Mult (.var 2) (.attr "bottom" (.var 0))))) .nil)))
def f36 : Fd := { d := ⟨("Ratio", some "__le__"), "__le__", "Ratio.__le__", defArgs (sub (top 11) 17), defBody (sub (top 11) 17), defScope (sub (top 11) 17), [], []⟩, N := ["self", "other", "top", "bottom"], ps := ["self", "other"], dds := [], body := b36, fz := false }
/-- Ratio.__gt__ -/
def b37 : JB :=
  (.cons (.ife (.not (.val (.call 2 (.cons (.var 1) .nil)))) (.cons .never .nil) .nil) (.cons (.unp [2, 3] (.call 3 (.cons (.var 1) .nil))) (.cons (.ret (.cmp .Gt (.bin .Mult (.attr "top" (.var 0)) (.var 3)) (.bin .Mult (.var 2) (.attr "bottom" (.var 0))))) .nil)))
def f37 : Fd := { d := ⟨("Ratio", some "__gt__"), "__gt__", "Ratio.__gt__", defArgs (sub (top 11) 18), defBody (sub (top 11) 18), defScope (sub (top 11) 18), [], []⟩, N := ["self", "other", "top", "bottom"], ps := ["self", "other"], dds := [], body := b37, fz := false }
/-- Ratio.__ge__ -/
def b38 : JB :=
  (.cons (.ife (.not (.val (.call 2 (.cons (.var 1) .nil)))) (.cons .never .nil) .nil) (.cons (.unp [2, 3] (.call 3 (.cons (.var 1) .nil))) (.cons (.ret (.cmp .GtE (.bin .Mult (.attr "top" (.var 0)) (.var 3)) (.bin .Mult (.var 2) (.attr "bottom" (.var 0))))) .nil)))
def f38 : Fd := { d := ⟨("Ratio", some "__ge__"), "__ge__", "Ratio.__ge__", defArgs (sub (top 11) 19), defBody (sub (top 11) 19), defScope (sub (top 11) 19), [], []⟩, N := ["self", "other", "top", "bottom"], ps := ["self", "other"], dds := [], body := b38, fz := false }
/-- Ratio.over -/
def b39 : JB :=
  (.cons .never .nil)
def f39 : Fd := { d := ⟨("Ratio", some "over"), "over", "Ratio.over", defArgs (sub (top 11) 20), defBody (sub (top 11) 20), defScope (sub (top 11) 20), [], []⟩, N := ["self", "number"], ps := ["self", "number"], dds := [], body := b39, fz := false }
/-- Ratio.power -/
def b40 : JB :=
  (.cons (.ret (.call 4 (.cons (.attr "top" (.var 0)) (.cons (.attr "bottom" (.var 0)) (.cons (.var 1) .nil))))) .nil)
def f40 : Fd := { d := ⟨("Ratio", some "power"), "power", "Ratio.power", defArgs (sub (top 11) 21), defBody (sub (top 11) 21), defScope (sub (top 11) 21), [], []⟩, N := ["self", "k"], ps := ["self", "k"], dds := [], body := b40, fz := false }
/-- Ratio.text -/
def b41 : JB :=
  (.cons (.ife (.val (.cmp .Eq (.attr "bottom" (.var 0)) (.int 1))) (.cons (.ret (.bi .str (.cons (.attr "top" (.var 0)) .nil))) .nil) .nil) (.cons (.ret (.bin .Add (.bin .Add (.bi .str (.cons (.attr "top" (.var 0)) .nil)) (.str "/")) (.bi .str (.cons (.attr "bottom" (.var 0)) .nil)))) .nil))
def f41 : Fd := { d := ⟨("Ratio", some "text"), "text", "Ratio.text", defArgs (sub (top 11) 22), defBody (sub (top 11) 22), defScope (sub (top 11) 22), [], []⟩, N := ["self"], ps := ["self"], dds := [], body := b41, fz := false }
/-- Ratio.read -/
def b42 : JB :=
  (.cons (.ife (.not (.val (.bi .isinstance (.cons (.var 0) (.cons (.glo 6) .nil))))) (.cons (.raise 1 (.cons (.str "text") .nil)) .nil) .nil) (.cons (.set 1 (.bm .startswith (.var 0) (.cons (.str "-") .nil))) (.cons (.unp [2, 3, 4] (.bm .partition (.sl false (.var 0) (.some (.bi .int (.cons (.var 1) .nil))) .none) (.cons (.str "/") .nil))) (.cons (.set 5 (.call 5 (.cons (.var 2) .nil))) (.cons (.set 6 (.ite (.val (.cmp .Eq (.var 3) (.str "/"))) (.call 5 (.cons (.var 4) .nil)) (.int 1))) (.cons (.ife (.or (.val (.cmp .Is (.var 5) .non)) (.val (.cmp .Is (.var 6) .non))) (.cons (.raise 1 (.cons (.str "text") .nil)) .nil) .nil) (.cons (.ife (.or (.and (.val (.cmp .Eq (.var 3) (.str "/"))) (.val (.cmp .Lt (.var 6) (.int 2)))) (.and (.val (.var 1)) (.val (.cmp .Eq (.var 5) (.int 0))))) (.cons (.raise 1 (.cons (.str "text") .nil)) .nil) .nil) (.cons (.ife (.val (.cmp .NotEq (.call 1 (.cons (.var 5) (.cons (.var 6) .nil))) (.int 1))) (.cons (.raise 1 (.cons (.str "text") .nil)) .nil) .nil) (.cons (.ret (.mk 3 (.cons (.ite (.val (.var 1)) (.un .USub (.var 5)) (.var 5)) (.cons (.var 6) .nil)))) .nil)))))))))
def f42 : Fd := { d := ⟨("Ratio", some "read"), "read", "Ratio.read", defArgs (sub (top 11) 23), defBody (sub (top 11) 23), defScope (sub (top 11) 23), [], []⟩, N := ["text", "negative", "top_text", "slash", "bottom_text", "top", "bottom"], ps := ["text"], dds := [], body := b42, fz := false, st := true }
def c0 : Cd := { nm := "AlignError", fl := [], mt := [], pl := false, ops := false, xf := [], xi := none, ups := [0], bup := ["ValueError", "Exception", "BaseException", "object"] }
def c1 : Cd := { nm := "NoRatio", fl := [], mt := [], pl := false, ops := false, xf := ["word"], xi := some 17, ups := [1, 0], bup := ["ValueError", "Exception", "BaseException", "object"] }
def c2 : Cd := { nm := "NoBoxes", fl := [], mt := [], pl := false, ops := false, xf := ["index", "part"], xi := some 18, ups := [2, 0], bup := ["ValueError", "Exception", "BaseException", "object"] }
def c3 : Cd := { nm := "Ratio", fl := ["top", "bottom"], mt := [("__init__", 19), ("__add__", 20), ("__radd__", 21), ("__sub__", 22), ("__rsub__", 23), ("__mul__", 24), ("__rmul__", 25), ("__floordiv__", 26), ("__rfloordiv__", 27), ("__mod__", 28), ("__rmod__", 29), ("__neg__", 30), ("__pos__", 31), ("__abs__", 32), ("__pow__", 33), ("__eq__", 34), ("__lt__", 35), ("__le__", 36), ("__gt__", 37), ("__ge__", 38), ("over", 39), ("power", 40), ("text", 41)], pl := true, ops := true, sm := [("read", 42)] }
def h0 : Sh := { f := 19, n := 2, ks := [], src := [.p 0, .p 1, .d 0] }
def S : Sig := { fs := [f0, f1, f2, f3, f4, f5, f6, f7, f8, f9, f10, f11, f12, f13, f14, f15, f16, f17, f18, f19, f20, f21, f22, f23, f24, f25, f26, f27, f28, f29, f30, f31, f32, f33, f34, f35, f36, f37, f38, f39, f40, f41, f42], cs := [c0, c1, c2, c3], sh := [h0], ks := [("bool", .ty "bool"), ("int", .ty "int"), ("Ratio", .fn 1003), ("MOST_POWER", .int 20), ("DIGITS", .str "0123456789"), ("MOST_DIGITS", .int 60), ("str", .ty "str")], free := ["isinstance", "abs", "range", "int", "len", "str", "ValueError"], xt := [.own 1, .own 2, .ty "ValueError", .own 0] }
theorem gl0 : gloD S 0 = some (.ty "bool") := rfl
theorem gl1 : gloD S 1 = some (.ty "int") := rfl
theorem gl2 : gloD S 2 = some (.fn 1003) := rfl
theorem gl3 : gloD S 3 = some (.int 20) := rfl
theorem gl4 : gloD S 4 = some (.str "0123456789") := rfl
theorem gl5 : gloD S 5 = some (.int 60) := rfl
theorem gl6 : gloD S 6 = some (.ty "str") := rfl
theorem xs0_0 : S.xsub (.own 0) (.own 1) = some false := by decide +kernel
theorem xs0_1 : S.xsub (.own 0) (.own 2) = some false := by decide +kernel
theorem xs0_2 : S.xsub (.own 0) (.ty "ValueError") = some true := by decide +kernel
theorem xs0_3 : S.xsub (.own 0) (.own 0) = some true := by decide +kernel
theorem xi1 : S.xin 1 = some 17 := rfl
theorem xf1 : S.xfN 1 = (["word"] : List Str) := rfl
theorem xk1_0 : (S.xfN 1).findIdx? (fun y => y == ("word" : Str)) = some 0 := by decide +kernel
theorem ra1 {δ : Env3} {ds : List D} {m : Mu} (h : ds.length = 1) : raiseS S 1 δ ds m = .exc (.own 1) (some ds) δ m := raise_ok xi1 h
theorem xs1_0 : S.xsub (.own 1) (.own 1) = some true := by decide +kernel
theorem xs1_1 : S.xsub (.own 1) (.own 2) = some false := by decide +kernel
theorem xs1_2 : S.xsub (.own 1) (.ty "ValueError") = some true := by decide +kernel
theorem xs1_3 : S.xsub (.own 1) (.own 0) = some true := by decide +kernel
theorem xi2 : S.xin 2 = some 18 := rfl
theorem xf2 : S.xfN 2 = (["index", "part"] : List Str) := rfl
theorem xk2_0 : (S.xfN 2).findIdx? (fun y => y == ("index" : Str)) = some 0 := by decide +kernel
theorem xk2_1 : (S.xfN 2).findIdx? (fun y => y == ("part" : Str)) = some 1 := by decide +kernel
theorem ra2 {δ : Env3} {ds : List D} {m : Mu} (h : ds.length = 2) : raiseS S 2 δ ds m = .exc (.own 2) (some ds) δ m := raise_ok xi2 h
theorem xs2_0 : S.xsub (.own 2) (.own 1) = some false := by decide +kernel
theorem xs2_1 : S.xsub (.own 2) (.own 2) = some true := by decide +kernel
theorem xs2_2 : S.xsub (.own 2) (.ty "ValueError") = some true := by decide +kernel
theorem xs2_3 : S.xsub (.own 2) (.own 0) = some true := by decide +kernel
theorem mi3_19 : S.mi 3 "__init__" = some 19 := by decide +kernel
theorem mi3_20 : S.mi 3 "__add__" = some 20 := by decide +kernel
theorem mi3_21 : S.mi 3 "__radd__" = some 21 := by decide +kernel
theorem mi3_22 : S.mi 3 "__sub__" = some 22 := by decide +kernel
theorem mi3_23 : S.mi 3 "__rsub__" = some 23 := by decide +kernel
theorem mi3_24 : S.mi 3 "__mul__" = some 24 := by decide +kernel
theorem mi3_25 : S.mi 3 "__rmul__" = some 25 := by decide +kernel
theorem mi3_26 : S.mi 3 "__floordiv__" = some 26 := by decide +kernel
theorem mi3_27 : S.mi 3 "__rfloordiv__" = some 27 := by decide +kernel
theorem mi3_28 : S.mi 3 "__mod__" = some 28 := by decide +kernel
theorem mi3_29 : S.mi 3 "__rmod__" = some 29 := by decide +kernel
theorem mi3_30 : S.mi 3 "__neg__" = some 30 := by decide +kernel
theorem mi3_31 : S.mi 3 "__pos__" = some 31 := by decide +kernel
theorem mi3_32 : S.mi 3 "__abs__" = some 32 := by decide +kernel
theorem mi3_33 : S.mi 3 "__pow__" = some 33 := by decide +kernel
theorem mi3_34 : S.mi 3 "__eq__" = some 34 := by decide +kernel
theorem mi3_35 : S.mi 3 "__lt__" = some 35 := by decide +kernel
theorem mi3_36 : S.mi 3 "__le__" = some 36 := by decide +kernel
theorem mi3_37 : S.mi 3 "__gt__" = some 37 := by decide +kernel
theorem mi3_38 : S.mi 3 "__ge__" = some 38 := by decide +kernel
theorem mi3_39 : S.mi 3 "over" = some 39 := by decide +kernel
theorem mi3_40 : S.mi 3 "power" = some 40 := by decide +kernel
theorem mi3_41 : S.mi 3 "text" = some 41 := by decide +kernel
theorem fd3_0 : S.fld 3 "top" = some 0 := by decide +kernel
theorem fd3_1 : S.fld 3 "bottom" = some 1 := by decide +kernel
theorem ho3 : hasOps S 3 = true := rfl
end K04

set_option maxRecDepth 100000
set_option maxHeartbeats 4000000
namespace K04
open PySem PySem.Spec PyProof.Rows L2 L3
theorem isi_int {i : Int} {μ : Mu} : isiS S (.int i) (.ty "int") μ = .ok (.bl true) μ := rfl
theorem isi_intB {i : Int} {μ : Mu} : isiS S (.int i) (.ty "bool") μ = .ok (.bl false) μ := rfl
theorem isi_intR {i : Int} {μ : Mu} : isiS S (.int i) (.fn 1003) μ = .ok (.bl false) μ := rfl
theorem isi_ratR {ds : List D} {μ : Mu} : isiS S (.ins 3 ds) (.fn 1003) μ = .ok (.bl true) μ := rfl
theorem is_integer_int {n : Nat} {i : Int} {μ : Mu} : runS S (n + 1) 0 [.int i] μ = .ok (.bl true) μ := by
  rw [run_raw (fi := f0) rfl rfl rfl]
  simp only [f0, b0, isi_int, isi_intB, x_var, x_int, x_bl, x_str, x_non, x_glo, x_bin, x_un, x_cmp, x_cmp2, asBl_bl, x_and, x_or, x_not, x_ite, x_tup, x_lst, x_lstC, x_call, x_callK, x_mk, x_mkC, x_mkK, x_meth, x_attr, x_ix, x_bi, x_sl, x_fz, x_nil, x_cons, x_onone, asI_int, x_osome, x_tval, x_tand, x_tor, x_tnot, x_iseq, walkR_tup, walkR_lst, walkR_klst, x_irange1, x_irange2, x_itxt, walkT_str, x_ienum, enR_eq, x_izip, forG_nil, x_comp, compG_nil, x_cnone, x_csome, x_bm, x_dnew, wipeD_cons, wipeD_nil, s_set_, s_par_, s_unp_, s_ret_, s_retN_, s_drop_, s_ife_, s_fr_, s_brk_, s_ct_, s_pass_, s_never_, s_setIx_, s_setAttr_, s_nil_, s_cons_, bind_ok, toS_ok, seq_nx, seq_ret, seq_brk, seq_ct, loop_nx, loop_ct, loop_brk, loop_ret, toR_ret, toR_nx, bin_ints, intB_add, intB_sub, biS, toIntS, setAll, List.getElem?_cons_zero, List.getElem?_cons_succ, List.set_cons_zero, List.set_cons_succ, List.map_cons, List.map_nil, List.length_cons, List.length_nil, List.cons_append, List.nil_append, List.append_nil, List.replicate_succ, List.replicate_zero, Nat.reduceAdd, Nat.reduceSub, Nat.zero_add, Nat.reduceLeDiff, if_true, if_false, Bool.false_eq_true, decide_true, decide_false, Bool.not_true, Bool.not_false, x_eFld, x_eIs, s_raise_, s_raise0_, s_aug_, aug_add, aug_sub, s_tryA_, s_tryO_, catchA_nx, catchA_ret, catchA_brk, catchA_ct, catchO_nx, catchO_ret, catchO_brk, catchO_ct, gone_nx, gone_ret, gone_brk, gone_ct, noX_nx, noX_ret, noX_brk, noX_ct, bind_exc, toS_exc, seq_exc, loop_exc, toR_exc, eFldS, eIsS, gl0, gl1, gl2, gl3, gl4, gl5, gl6, xs0_0, xs0_1, xs0_2, xs0_3, xi1, xk1_0, ra1, xs1_0, xs1_1, xs1_2, xs1_3, xi2, xk2_0, xk2_1, ra2, xs2_0, xs2_1, xs2_2, xs2_3, mi3_19, mi3_20, mi3_21, mi3_22, mi3_23, mi3_24, mi3_25, mi3_26, mi3_27, mi3_28, mi3_29, mi3_30, mi3_31, mi3_32, mi3_33, mi3_34, mi3_35, mi3_36, mi3_37, mi3_38, mi3_39, mi3_40, mi3_41, fd3_0, fd3_1, ho3]
theorem is_number_int {n : Nat} {i : Int} {μ : Mu} : runS S (n + 2) 2 [.int i] μ = .ok (.bl true) μ := by
  rw [run_raw (fi := f2) rfl rfl rfl]
  simp only [f2, b2, is_integer_int, isi_intR, x_var, x_int, x_bl, x_str, x_non, x_glo, x_bin, x_un, x_cmp, x_cmp2, asBl_bl, x_and, x_or, x_not, x_ite, x_tup, x_lst, x_lstC, x_call, x_callK, x_mk, x_mkC, x_mkK, x_meth, x_attr, x_ix, x_bi, x_sl, x_fz, x_nil, x_cons, x_onone, asI_int, x_osome, x_tval, x_tand, x_tor, x_tnot, x_iseq, walkR_tup, walkR_lst, walkR_klst, x_irange1, x_irange2, x_itxt, walkT_str, x_ienum, enR_eq, x_izip, forG_nil, x_comp, compG_nil, x_cnone, x_csome, x_bm, x_dnew, wipeD_cons, wipeD_nil, s_set_, s_par_, s_unp_, s_ret_, s_retN_, s_drop_, s_ife_, s_fr_, s_brk_, s_ct_, s_pass_, s_never_, s_setIx_, s_setAttr_, s_nil_, s_cons_, bind_ok, toS_ok, seq_nx, seq_ret, seq_brk, seq_ct, loop_nx, loop_ct, loop_brk, loop_ret, toR_ret, toR_nx, bin_ints, intB_add, intB_sub, biS, toIntS, setAll, List.getElem?_cons_zero, List.getElem?_cons_succ, List.set_cons_zero, List.set_cons_succ, List.map_cons, List.map_nil, List.length_cons, List.length_nil, List.cons_append, List.nil_append, List.append_nil, List.replicate_succ, List.replicate_zero, Nat.reduceAdd, Nat.reduceSub, Nat.zero_add, Nat.reduceLeDiff, if_true, if_false, Bool.false_eq_true, decide_true, decide_false, Bool.not_true, Bool.not_false, x_eFld, x_eIs, s_raise_, s_raise0_, s_aug_, aug_add, aug_sub, s_tryA_, s_tryO_, catchA_nx, catchA_ret, catchA_brk, catchA_ct, catchO_nx, catchO_ret, catchO_brk, catchO_ct, gone_nx, gone_ret, gone_brk, gone_ct, noX_nx, noX_ret, noX_brk, noX_ct, bind_exc, toS_exc, seq_exc, loop_exc, toR_exc, eFldS, eIsS, gl0, gl1, gl2, gl3, gl4, gl5, gl6, xs0_0, xs0_1, xs0_2, xs0_3, xi1, xk1_0, ra1, xs1_0, xs1_1, xs1_2, xs1_3, xi2, xk2_0, xk2_1, ra2, xs2_0, xs2_1, xs2_2, xs2_3, mi3_19, mi3_20, mi3_21, mi3_22, mi3_23, mi3_24, mi3_25, mi3_26, mi3_27, mi3_28, mi3_29, mi3_30, mi3_31, mi3_32, mi3_33, mi3_34, mi3_35, mi3_36, mi3_37, mi3_38, mi3_39, mi3_40, mi3_41, fd3_0, fd3_1, ho3]
/-- a Ratio -/
abbrev rat (t b : Int) : D := .ins 3 [.int t, .int b]
theorem is_number_rat {n : Nat} {t b : Int} {μ : Mu} : runS S (n + 1) 2 [rat t b] μ = .ok (.bl true) μ := by
  rw [run_raw (fi := f2) rfl rfl rfl]
  simp only [f2, b2, isi_ratR, x_var, x_int, x_bl, x_str, x_non, x_glo, x_bin, x_un, x_cmp, x_cmp2, asBl_bl, x_and, x_or, x_not, x_ite, x_tup, x_lst, x_lstC, x_call, x_callK, x_mk, x_mkC, x_mkK, x_meth, x_attr, x_ix, x_bi, x_sl, x_fz, x_nil, x_cons, x_onone, asI_int, x_osome, x_tval, x_tand, x_tor, x_tnot, x_iseq, walkR_tup, walkR_lst, walkR_klst, x_irange1, x_irange2, x_itxt, walkT_str, x_ienum, enR_eq, x_izip, forG_nil, x_comp, compG_nil, x_cnone, x_csome, x_bm, x_dnew, wipeD_cons, wipeD_nil, s_set_, s_par_, s_unp_, s_ret_, s_retN_, s_drop_, s_ife_, s_fr_, s_brk_, s_ct_, s_pass_, s_never_, s_setIx_, s_setAttr_, s_nil_, s_cons_, bind_ok, toS_ok, seq_nx, seq_ret, seq_brk, seq_ct, loop_nx, loop_ct, loop_brk, loop_ret, toR_ret, toR_nx, bin_ints, intB_add, intB_sub, biS, toIntS, setAll, List.getElem?_cons_zero, List.getElem?_cons_succ, List.set_cons_zero, List.set_cons_succ, List.map_cons, List.map_nil, List.length_cons, List.length_nil, List.cons_append, List.nil_append, List.append_nil, List.replicate_succ, List.replicate_zero, Nat.reduceAdd, Nat.reduceSub, Nat.zero_add, Nat.reduceLeDiff, if_true, if_false, Bool.false_eq_true, decide_true, decide_false, Bool.not_true, Bool.not_false, x_eFld, x_eIs, s_raise_, s_raise0_, s_aug_, aug_add, aug_sub, s_tryA_, s_tryO_, catchA_nx, catchA_ret, catchA_brk, catchA_ct, catchO_nx, catchO_ret, catchO_brk, catchO_ct, gone_nx, gone_ret, gone_brk, gone_ct, noX_nx, noX_ret, noX_brk, noX_ct, bind_exc, toS_exc, seq_exc, loop_exc, toR_exc, eFldS, eIsS, gl0, gl1, gl2, gl3, gl4, gl5, gl6, xs0_0, xs0_1, xs0_2, xs0_3, xi1, xk1_0, ra1, xs1_0, xs1_1, xs1_2, xs1_3, xi2, xk2_0, xk2_1, ra2, xs2_0, xs2_1, xs2_2, xs2_3, mi3_19, mi3_20, mi3_21, mi3_22, mi3_23, mi3_24, mi3_25, mi3_26, mi3_27, mi3_28, mi3_29, mi3_30, mi3_31, mi3_32, mi3_33, mi3_34, mi3_35, mi3_36, mi3_37, mi3_38, mi3_39, mi3_40, mi3_41, fd3_0, fd3_1, ho3]
theorem parts_int {n : Nat} {i : Int} {μ : Mu} : runS S (n + 1) 3 [.int i] μ = .ok (.tup [.int i, .int 1]) μ := by
  rw [run_raw (fi := f3) rfl rfl rfl]
  simp only [f3, b3, isi_intR, x_var, x_int, x_bl, x_str, x_non, x_glo, x_bin, x_un, x_cmp, x_cmp2, asBl_bl, x_and, x_or, x_not, x_ite, x_tup, x_lst, x_lstC, x_call, x_callK, x_mk, x_mkC, x_mkK, x_meth, x_attr, x_ix, x_bi, x_sl, x_fz, x_nil, x_cons, x_onone, asI_int, x_osome, x_tval, x_tand, x_tor, x_tnot, x_iseq, walkR_tup, walkR_lst, walkR_klst, x_irange1, x_irange2, x_itxt, walkT_str, x_ienum, enR_eq, x_izip, forG_nil, x_comp, compG_nil, x_cnone, x_csome, x_bm, x_dnew, wipeD_cons, wipeD_nil, s_set_, s_par_, s_unp_, s_ret_, s_retN_, s_drop_, s_ife_, s_fr_, s_brk_, s_ct_, s_pass_, s_never_, s_setIx_, s_setAttr_, s_nil_, s_cons_, bind_ok, toS_ok, seq_nx, seq_ret, seq_brk, seq_ct, loop_nx, loop_ct, loop_brk, loop_ret, toR_ret, toR_nx, bin_ints, intB_add, intB_sub, biS, toIntS, setAll, List.getElem?_cons_zero, List.getElem?_cons_succ, List.set_cons_zero, List.set_cons_succ, List.map_cons, List.map_nil, List.length_cons, List.length_nil, List.cons_append, List.nil_append, List.append_nil, List.replicate_succ, List.replicate_zero, Nat.reduceAdd, Nat.reduceSub, Nat.zero_add, Nat.reduceLeDiff, if_true, if_false, Bool.false_eq_true, decide_true, decide_false, Bool.not_true, Bool.not_false, x_eFld, x_eIs, s_raise_, s_raise0_, s_aug_, aug_add, aug_sub, s_tryA_, s_tryO_, catchA_nx, catchA_ret, catchA_brk, catchA_ct, catchO_nx, catchO_ret, catchO_brk, catchO_ct, gone_nx, gone_ret, gone_brk, gone_ct, noX_nx, noX_ret, noX_brk, noX_ct, bind_exc, toS_exc, seq_exc, loop_exc, toR_exc, eFldS, eIsS, gl0, gl1, gl2, gl3, gl4, gl5, gl6, xs0_0, xs0_1, xs0_2, xs0_3, xi1, xk1_0, ra1, xs1_0, xs1_1, xs1_2, xs1_3, xi2, xk2_0, xk2_1, ra2, xs2_0, xs2_1, xs2_2, xs2_3, mi3_19, mi3_20, mi3_21, mi3_22, mi3_23, mi3_24, mi3_25, mi3_26, mi3_27, mi3_28, mi3_29, mi3_30, mi3_31, mi3_32, mi3_33, mi3_34, mi3_35, mi3_36, mi3_37, mi3_38, mi3_39, mi3_40, mi3_41, fd3_0, fd3_1, ho3]
theorem attr_top {t b : Int} {μ : Mu} : attrS S "top" (rat t b) μ = .ok (.int t) μ := by
  simp only [attrS, insOf, fd3_0, List.getElem?_cons_zero]
theorem attr_bot {t b : Int} {μ : Mu} : attrS S "bottom" (rat t b) μ = .ok (.int b) μ := by
  simp only [attrS, insOf, fd3_1, List.getElem?_cons_zero, List.getElem?_cons_succ]
theorem parts_rat {n : Nat} {t b : Int} {μ : Mu} : runS S (n + 1) 3 [rat t b] μ = .ok (.tup [.int t, .int b]) μ := by
  rw [run_raw (fi := f3) rfl rfl rfl]
  simp only [f3, b3, isi_ratR, attr_top, attr_bot, x_var, x_int, x_bl, x_str, x_non, x_glo, x_bin, x_un, x_cmp, x_cmp2, asBl_bl, x_and, x_or, x_not, x_ite, x_tup, x_lst, x_lstC, x_call, x_callK, x_mk, x_mkC, x_mkK, x_meth, x_attr, x_ix, x_bi, x_sl, x_fz, x_nil, x_cons, x_onone, asI_int, x_osome, x_tval, x_tand, x_tor, x_tnot, x_iseq, walkR_tup, walkR_lst, walkR_klst, x_irange1, x_irange2, x_itxt, walkT_str, x_ienum, enR_eq, x_izip, forG_nil, x_comp, compG_nil, x_cnone, x_csome, x_bm, x_dnew, wipeD_cons, wipeD_nil, s_set_, s_par_, s_unp_, s_ret_, s_retN_, s_drop_, s_ife_, s_fr_, s_brk_, s_ct_, s_pass_, s_never_, s_setIx_, s_setAttr_, s_nil_, s_cons_, bind_ok, toS_ok, seq_nx, seq_ret, seq_brk, seq_ct, loop_nx, loop_ct, loop_brk, loop_ret, toR_ret, toR_nx, bin_ints, intB_add, intB_sub, biS, toIntS, setAll, List.getElem?_cons_zero, List.getElem?_cons_succ, List.set_cons_zero, List.set_cons_succ, List.map_cons, List.map_nil, List.length_cons, List.length_nil, List.cons_append, List.nil_append, List.append_nil, List.replicate_succ, List.replicate_zero, Nat.reduceAdd, Nat.reduceSub, Nat.zero_add, Nat.reduceLeDiff, if_true, if_false, Bool.false_eq_true, decide_true, decide_false, Bool.not_true, Bool.not_false, x_eFld, x_eIs, s_raise_, s_raise0_, s_aug_, aug_add, aug_sub, s_tryA_, s_tryO_, catchA_nx, catchA_ret, catchA_brk, catchA_ct, catchO_nx, catchO_ret, catchO_brk, catchO_ct, gone_nx, gone_ret, gone_brk, gone_ct, noX_nx, noX_ret, noX_brk, noX_ct, bind_exc, toS_exc, seq_exc, loop_exc, toR_exc, eFldS, eIsS, gl0, gl1, gl2, gl3, gl4, gl5, gl6, xs0_0, xs0_1, xs0_2, xs0_3, xi1, xk1_0, ra1, xs1_0, xs1_1, xs1_2, xs1_3, xi2, xk2_0, xk2_1, ra2, xs2_0, xs2_1, xs2_2, xs2_3, mi3_19, mi3_20, mi3_21, mi3_22, mi3_23, mi3_24, mi3_25, mi3_26, mi3_27, mi3_28, mi3_29, mi3_30, mi3_31, mi3_32, mi3_33, mi3_34, mi3_35, mi3_36, mi3_37, mi3_38, mi3_39, mi3_40, mi3_41, fd3_0, fd3_1, ho3]
theorem abs_int {S : Sig} {run : Nat → List D → PM D} {i : Int} {μ : Mu} : absS S run (.int i) μ = .ok (.int (i.natAbs : Int)) μ := by
  show Res.ok (D.int (if i < 0 then -i else i)) μ = _
  congr 2
  split <;> omega
/-- Euclid's loop -/
theorem cd_loop (n : Nat) (μ : Mu) : ∀ (m b a : Nat), b ≤ m → whileL (semT S (runS S n) (.val (.cmp .Gt (.var 1) (.int 0)))) (semB S (runS S n) (.cons (.par 0 1 (.var 1) (.bin .Mod (.var 0) (.var 1))) .nil)) (m + 1) [some (.int a), some (.int b)] μ = .nx [some (.int (Nat.gcd a b)), some (.int 0)] μ
  | m, b, a, h => by
    show (semT S (runS S n) (.val (.cmp .Gt (.var 1) (.int 0))) [some (.int a), some (.int b)] μ).toS _ _ = _
    by_cases hb : b = 0
    · subst hb
      simp [x_tval, x_cmp, x_var, x_int, bind_ok, asBl_bl, toS_ok, cmp_ints, intC]
    · have hb2 : (0 : Int) < (b : Int) := by omega
      cases m with
      | zero => omega
      | succ m =>
        have ih := cd_loop n μ m (a % b) b (by have := Nat.mod_lt a (show b > 0 by omega); omega)
        have e : (a : Int).fmod (b : Int) = ((a % b : Nat) : Int) := by rw [Int.fmod_eq_emod_of_nonneg _ (by omega)]; simp
        simp only [x_tval, cmp_ints (o := .Gt) (by decide) (by decide), intC, decide_eq_true hb2, intB_mod (show (b : Int) ≠ 0 by omega), e, x_var, x_int, x_bl, x_str, x_non, x_glo, x_bin, x_un, x_cmp, x_cmp2, asBl_bl, x_and, x_or, x_not, x_ite, x_tup, x_lst, x_lstC, x_call, x_callK, x_mk, x_mkC, x_mkK, x_meth, x_attr, x_ix, x_bi, x_sl, x_fz, x_nil, x_cons, x_onone, asI_int, x_osome, x_tval, x_tand, x_tor, x_tnot, x_iseq, walkR_tup, walkR_lst, walkR_klst, x_irange1, x_irange2, x_itxt, walkT_str, x_ienum, enR_eq, x_izip, forG_nil, x_comp, compG_nil, x_cnone, x_csome, x_bm, x_dnew, wipeD_cons, wipeD_nil, s_set_, s_par_, s_unp_, s_ret_, s_retN_, s_drop_, s_ife_, s_fr_, s_brk_, s_ct_, s_pass_, s_never_, s_setIx_, s_setAttr_, s_nil_, s_cons_, bind_ok, toS_ok, seq_nx, seq_ret, seq_brk, seq_ct, loop_nx, loop_ct, loop_brk, loop_ret, toR_ret, toR_nx, bin_ints, intB_add, intB_sub, biS, toIntS, setAll, List.getElem?_cons_zero, List.getElem?_cons_succ, List.set_cons_zero, List.set_cons_succ, List.map_cons, List.map_nil, List.length_cons, List.length_nil, List.cons_append, List.nil_append, List.append_nil, List.replicate_succ, List.replicate_zero, Nat.reduceAdd, Nat.reduceSub, Nat.zero_add, Nat.reduceLeDiff, if_true, if_false, Bool.false_eq_true, decide_true, decide_false, Bool.not_true, Bool.not_false, x_eFld, x_eIs, s_raise_, s_raise0_, s_aug_, aug_add, aug_sub, s_tryA_, s_tryO_, catchA_nx, catchA_ret, catchA_brk, catchA_ct, catchO_nx, catchO_ret, catchO_brk, catchO_ct, gone_nx, gone_ret, gone_brk, gone_ct, noX_nx, noX_ret, noX_brk, noX_ct, bind_exc, toS_exc, seq_exc, loop_exc, toR_exc, eFldS, eIsS, gl0, gl1, gl2, gl3, gl4, gl5, gl6, xs0_0, xs0_1, xs0_2, xs0_3, xi1, xk1_0, ra1, xs1_0, xs1_1, xs1_2, xs1_3, xi2, xk2_0, xk2_1, ra2, xs2_0, xs2_1, xs2_2, xs2_3, mi3_19, mi3_20, mi3_21, mi3_22, mi3_23, mi3_24, mi3_25, mi3_26, mi3_27, mi3_28, mi3_29, mi3_30, mi3_31, mi3_32, mi3_33, mi3_34, mi3_35, mi3_36, mi3_37, mi3_38, mi3_39, mi3_40, mi3_41, fd3_0, fd3_1, ho3]
        rw [ih, Nat.gcd_comm b, ← Nat.gcd_rec, Nat.gcd_comm]
theorem cd_ok {n : Nat} {a b : Int} {μ : Mu} : runS S (n + 1) 1 [.int a, .int b] μ = .ok (.int (Int.gcd a b)) μ := by
  rw [run_raw (fi := f1) rfl rfl rfl]
  have w := while_eq (cd_loop n μ b.natAbs b.natAbs a.natAbs (Nat.le_refl _)) (by simp)
  simp only [f1, b1, abs_int, s_wh_, x_var, x_int, x_bl, x_str, x_non, x_glo, x_bin, x_un, x_cmp, x_cmp2, asBl_bl, x_and, x_or, x_not, x_ite, x_tup, x_lst, x_lstC, x_call, x_callK, x_mk, x_mkC, x_mkK, x_meth, x_attr, x_ix, x_bi, x_sl, x_fz, x_nil, x_cons, x_onone, asI_int, x_osome, x_tval, x_tand, x_tor, x_tnot, x_iseq, walkR_tup, walkR_lst, walkR_klst, x_irange1, x_irange2, x_itxt, walkT_str, x_ienum, enR_eq, x_izip, forG_nil, x_comp, compG_nil, x_cnone, x_csome, x_bm, x_dnew, wipeD_cons, wipeD_nil, s_set_, s_par_, s_unp_, s_ret_, s_retN_, s_drop_, s_ife_, s_fr_, s_brk_, s_ct_, s_pass_, s_never_, s_setIx_, s_setAttr_, s_nil_, s_cons_, bind_ok, toS_ok, seq_nx, seq_ret, seq_brk, seq_ct, loop_nx, loop_ct, loop_brk, loop_ret, toR_ret, toR_nx, bin_ints, intB_add, intB_sub, biS, toIntS, setAll, List.getElem?_cons_zero, List.getElem?_cons_succ, List.set_cons_zero, List.set_cons_succ, List.map_cons, List.map_nil, List.length_cons, List.length_nil, List.cons_append, List.nil_append, List.append_nil, List.replicate_succ, List.replicate_zero, Nat.reduceAdd, Nat.reduceSub, Nat.zero_add, Nat.reduceLeDiff, if_true, if_false, Bool.false_eq_true, decide_true, decide_false, Bool.not_true, Bool.not_false, x_eFld, x_eIs, s_raise_, s_raise0_, s_aug_, aug_add, aug_sub, s_tryA_, s_tryO_, catchA_nx, catchA_ret, catchA_brk, catchA_ct, catchO_nx, catchO_ret, catchO_brk, catchO_ct, gone_nx, gone_ret, gone_brk, gone_ct, noX_nx, noX_ret, noX_brk, noX_ct, bind_exc, toS_exc, seq_exc, loop_exc, toR_exc, eFldS, eIsS, gl0, gl1, gl2, gl3, gl4, gl5, gl6, xs0_0, xs0_1, xs0_2, xs0_3, xi1, xk1_0, ra1, xs1_0, xs1_1, xs1_2, xs1_3, xi2, xk2_0, xk2_1, ra2, xs2_0, xs2_1, xs2_2, xs2_3, mi3_19, mi3_20, mi3_21, mi3_22, mi3_23, mi3_24, mi3_25, mi3_26, mi3_27, mi3_28, mi3_29, mi3_30, mi3_31, mi3_32, mi3_33, mi3_34, mi3_35, mi3_36, mi3_37, mi3_38, mi3_39, mi3_40, mi3_41, fd3_0, fd3_1, ho3]
  simp only [w, x_var, x_int, x_bl, x_str, x_non, x_glo, x_bin, x_un, x_cmp, x_cmp2, asBl_bl, x_and, x_or, x_not, x_ite, x_tup, x_lst, x_lstC, x_call, x_callK, x_mk, x_mkC, x_mkK, x_meth, x_attr, x_ix, x_bi, x_sl, x_fz, x_nil, x_cons, x_onone, asI_int, x_osome, x_tval, x_tand, x_tor, x_tnot, x_iseq, walkR_tup, walkR_lst, walkR_klst, x_irange1, x_irange2, x_itxt, walkT_str, x_ienum, enR_eq, x_izip, forG_nil, x_comp, compG_nil, x_cnone, x_csome, x_bm, x_dnew, wipeD_cons, wipeD_nil, s_set_, s_par_, s_unp_, s_ret_, s_retN_, s_drop_, s_ife_, s_fr_, s_brk_, s_ct_, s_pass_, s_never_, s_setIx_, s_setAttr_, s_nil_, s_cons_, bind_ok, toS_ok, seq_nx, seq_ret, seq_brk, seq_ct, loop_nx, loop_ct, loop_brk, loop_ret, toR_ret, toR_nx, bin_ints, intB_add, intB_sub, biS, toIntS, setAll, List.getElem?_cons_zero, List.getElem?_cons_succ, List.set_cons_zero, List.set_cons_succ, List.map_cons, List.map_nil, List.length_cons, List.length_nil, List.cons_append, List.nil_append, List.append_nil, List.replicate_succ, List.replicate_zero, Nat.reduceAdd, Nat.reduceSub, Nat.zero_add, Nat.reduceLeDiff, if_true, if_false, Bool.false_eq_true, decide_true, decide_false, Bool.not_true, Bool.not_false, x_eFld, x_eIs, s_raise_, s_raise0_, s_aug_, aug_add, aug_sub, s_tryA_, s_tryO_, catchA_nx, catchA_ret, catchA_brk, catchA_ct, catchO_nx, catchO_ret, catchO_brk, catchO_ct, gone_nx, gone_ret, gone_brk, gone_ct, noX_nx, noX_ret, noX_brk, noX_ct, bind_exc, toS_exc, seq_exc, loop_exc, toR_exc, eFldS, eIsS, gl0, gl1, gl2, gl3, gl4, gl5, gl6, xs0_0, xs0_1, xs0_2, xs0_3, xi1, xk1_0, ra1, xs1_0, xs1_1, xs1_2, xs1_3, xi2, xk2_0, xk2_1, ra2, xs2_0, xs2_1, xs2_2, xs2_3, mi3_19, mi3_20, mi3_21, mi3_22, mi3_23, mi3_24, mi3_25, mi3_26, mi3_27, mi3_28, mi3_29, mi3_30, mi3_31, mi3_32, mi3_33, mi3_34, mi3_35, mi3_36, mi3_37, mi3_38, mi3_39, mi3_40, mi3_41, fd3_0, fd3_1, ho3]
  rfl
end K04
namespace K04
open PySem PySem.Spec PyProof.Rows L2 L3
/-! ### new Ratios -/
theorem put_top {δ : Env3} {d : D} {μ : Mu} : putAttr S "top" δ d (.cell μ.length) (μ ++ [.ins 3 []]) = .nx δ (μ ++ [.ins 3 [d]]) := by
  simp only [putAttr, get_last, fd3_0, set_last, List.length_nil, Nat.lt_irrefl, if_false, if_true, List.nil_append]
theorem put_bot {δ : Env3} {d e : D} {μ : Mu} : putAttr S "bottom" δ d (.cell μ.length) (μ ++ [.ins 3 [e]]) = .nx δ (μ ++ [.ins 3 [e, d]]) := by
  simp only [putAttr, get_last, fd3_1, set_last, List.length_cons, List.length_nil, Nat.zero_add, Nat.lt_irrefl, if_false, if_true, List.cons_append, List.nil_append]
theorem un_neg_int {S : Sig} {run : Nat → List D → PM D} {i : Int} {μ : Mu} : unS S run .USub (.int i) μ = .ok (.int (-i)) μ := rfl
theorem gcd_sg {t b : Int} (h : b < 0) : Int.gcd (-t) (-b) = Int.gcd t b := by rw [Int.gcd_neg, Int.neg_gcd]
theorem init_ok {n : Nat} {t b : Int} {μ : Mu} (hb : b ≠ 0) (bd : Bd 8000 b) : runS S (n + 2) 19 [.cell μ.length, .int t, .int b] (μ ++ [.ins 3 []]) = .ok .non (μ ++ [.ins 3 [.int (nT t b), .int (nB t b)]]) := by
  rw [run_raw (fi := f19) rfl rfl rfl]
  have g1 : ((Int.gcd t b : Nat) : Int) ≠ 0 := by have := gcd_pos (t := t) hb; omega
  have g2 : Bd 8000 ((Int.gcd t b : Nat) : Int) := by
    show Int.natAbs _ < _
    rw [Int.natAbs_natCast]
    exact Nat.lt_of_le_of_lt (Nat.le_of_dvd (by omega) (Nat.gcd_dvd_right ..)) bd
  by_cases h : b < 0
  · simp only [f19, b19, is_integer_int, cmp_ints (o := .Eq) (by decide) (by decide), cmp_ints (o := .Lt) (by decide) (by decide), intC, decide_eq_false hb, decide_eq_true h, un_neg_int, cd_ok, gcd_sg h, intB_div g1 g2 (by decide), put_top, put_bot, x_var, x_int, x_bl, x_str, x_non, x_glo, x_bin, x_un, x_cmp, x_cmp2, asBl_bl, x_and, x_or, x_not, x_ite, x_tup, x_lst, x_lstC, x_call, x_callK, x_mk, x_mkC, x_mkK, x_meth, x_attr, x_ix, x_bi, x_sl, x_fz, x_nil, x_cons, x_onone, asI_int, x_osome, x_tval, x_tand, x_tor, x_tnot, x_iseq, walkR_tup, walkR_lst, walkR_klst, x_irange1, x_irange2, x_itxt, walkT_str, x_ienum, enR_eq, x_izip, forG_nil, x_comp, compG_nil, x_cnone, x_csome, x_bm, x_dnew, wipeD_cons, wipeD_nil, s_set_, s_par_, s_unp_, s_ret_, s_retN_, s_drop_, s_ife_, s_fr_, s_brk_, s_ct_, s_pass_, s_never_, s_setIx_, s_setAttr_, s_nil_, s_cons_, bind_ok, toS_ok, seq_nx, seq_ret, seq_brk, seq_ct, loop_nx, loop_ct, loop_brk, loop_ret, toR_ret, toR_nx, bin_ints, intB_add, intB_sub, biS, toIntS, setAll, List.getElem?_cons_zero, List.getElem?_cons_succ, List.set_cons_zero, List.set_cons_succ, List.map_cons, List.map_nil, List.length_cons, List.length_nil, List.cons_append, List.nil_append, List.append_nil, List.replicate_succ, List.replicate_zero, Nat.reduceAdd, Nat.reduceSub, Nat.zero_add, Nat.reduceLeDiff, if_true, if_false, Bool.false_eq_true, decide_true, decide_false, Bool.not_true, Bool.not_false, x_eFld, x_eIs, s_raise_, s_raise0_, s_aug_, aug_add, aug_sub, s_tryA_, s_tryO_, catchA_nx, catchA_ret, catchA_brk, catchA_ct, catchO_nx, catchO_ret, catchO_brk, catchO_ct, gone_nx, gone_ret, gone_brk, gone_ct, noX_nx, noX_ret, noX_brk, noX_ct, bind_exc, toS_exc, seq_exc, loop_exc, toR_exc, eFldS, eIsS, gl0, gl1, gl2, gl3, gl4, gl5, gl6, xs0_0, xs0_1, xs0_2, xs0_3, xi1, xk1_0, ra1, xs1_0, xs1_1, xs1_2, xs1_3, xi2, xk2_0, xk2_1, ra2, xs2_0, xs2_1, xs2_2, xs2_3, mi3_19, mi3_20, mi3_21, mi3_22, mi3_23, mi3_24, mi3_25, mi3_26, mi3_27, mi3_28, mi3_29, mi3_30, mi3_31, mi3_32, mi3_33, mi3_34, mi3_35, mi3_36, mi3_37, mi3_38, mi3_39, mi3_40, mi3_41, fd3_0, fd3_1, ho3]
    simp only [nT, nB, sg, if_pos h]
  · simp only [f19, b19, is_integer_int, cmp_ints (o := .Eq) (by decide) (by decide), cmp_ints (o := .Lt) (by decide) (by decide), intC, decide_eq_false hb, decide_eq_false h, un_neg_int, cd_ok, intB_div g1 g2 (by decide), put_top, put_bot, x_var, x_int, x_bl, x_str, x_non, x_glo, x_bin, x_un, x_cmp, x_cmp2, asBl_bl, x_and, x_or, x_not, x_ite, x_tup, x_lst, x_lstC, x_call, x_callK, x_mk, x_mkC, x_mkK, x_meth, x_attr, x_ix, x_bi, x_sl, x_fz, x_nil, x_cons, x_onone, asI_int, x_osome, x_tval, x_tand, x_tor, x_tnot, x_iseq, walkR_tup, walkR_lst, walkR_klst, x_irange1, x_irange2, x_itxt, walkT_str, x_ienum, enR_eq, x_izip, forG_nil, x_comp, compG_nil, x_cnone, x_csome, x_bm, x_dnew, wipeD_cons, wipeD_nil, s_set_, s_par_, s_unp_, s_ret_, s_retN_, s_drop_, s_ife_, s_fr_, s_brk_, s_ct_, s_pass_, s_never_, s_setIx_, s_setAttr_, s_nil_, s_cons_, bind_ok, toS_ok, seq_nx, seq_ret, seq_brk, seq_ct, loop_nx, loop_ct, loop_brk, loop_ret, toR_ret, toR_nx, bin_ints, intB_add, intB_sub, biS, toIntS, setAll, List.getElem?_cons_zero, List.getElem?_cons_succ, List.set_cons_zero, List.set_cons_succ, List.map_cons, List.map_nil, List.length_cons, List.length_nil, List.cons_append, List.nil_append, List.append_nil, List.replicate_succ, List.replicate_zero, Nat.reduceAdd, Nat.reduceSub, Nat.zero_add, Nat.reduceLeDiff, if_true, if_false, Bool.false_eq_true, decide_true, decide_false, Bool.not_true, Bool.not_false, x_eFld, x_eIs, s_raise_, s_raise0_, s_aug_, aug_add, aug_sub, s_tryA_, s_tryO_, catchA_nx, catchA_ret, catchA_brk, catchA_ct, catchO_nx, catchO_ret, catchO_brk, catchO_ct, gone_nx, gone_ret, gone_brk, gone_ct, noX_nx, noX_ret, noX_brk, noX_ct, bind_exc, toS_exc, seq_exc, loop_exc, toR_exc, eFldS, eIsS, gl0, gl1, gl2, gl3, gl4, gl5, gl6, xs0_0, xs0_1, xs0_2, xs0_3, xi1, xk1_0, ra1, xs1_0, xs1_1, xs1_2, xs1_3, xi2, xk2_0, xk2_1, ra2, xs2_0, xs2_1, xs2_2, xs2_3, mi3_19, mi3_20, mi3_21, mi3_22, mi3_23, mi3_24, mi3_25, mi3_26, mi3_27, mi3_28, mi3_29, mi3_30, mi3_31, mi3_32, mi3_33, mi3_34, mi3_35, mi3_36, mi3_37, mi3_38, mi3_39, mi3_40, mi3_41, fd3_0, fd3_1, ho3]
    simp only [nT, nB, sg, if_neg h]
theorem mk_rat {n : Nat} {t b : Int} {μ : Mu} (hb : b ≠ 0) (bd : Bd 8000 b) : mkS true 3 (fun o m => mrun S (runS S (n + 2)) 3 "__init__" (o ++ [.int t, .int b]) m) μ = .ok (rat (nT t b) (nB t b)) μ := by
  unfold mkS mrun
  simp only [mi3_19, List.cons_append, List.nil_append, init_ok hb bd, bind_ok, if_true]
  exact closeFz_ins rfl
/-- what an operator of two Ratios, of a Ratio and an int makes -/
theorem one_ne : (1 : Int) ≠ 0 := by decide
theorem one_bd : Bd 1000 1 := Bd.mono (k := 1) (by decide) (by decide)
end K04
namespace K04
open PySem PySem.Spec PyProof.Rows L2 L3
/-- the stream's cell, m draws from its start -/
def Sc (m : Nat) (cl : Cel) : Prop := ∃ a b c : Int, cl = .lst [.int a, .int b, .int c] ∧ 0 ≤ b ∧ b < 2147483629 ∧ 0 ≤ c ∧ c ≤ m
theorem at_mid {μ ρ : Mu} {c : Cel} : (μ ++ c :: ρ)[μ.length]? = some c := by simp
theorem set_mid {μ ρ : Mu} {c d : Cel} : (μ ++ c :: ρ).set μ.length d = μ ++ d :: ρ := by
  rw [List.set_append_right _ _ (Nat.le_refl _), Nat.sub_self]
  rfl
theorem ix_cell {p : Nat} {i : Int} {ds : List D} {d : D} {μ : Mu} (h : μ[p]? = some (.lst ds)) (g : atI ds i = some d) : ixF (.cell p) (.int i) μ = .ok d μ := by
  simp only [ixF, ixD, h, g]
theorem put_cell {p : Nat} {k : Int} {n : Nat} {ds : List D} {d : D} {δ : Env3} {μ : Mu} (h : μ[p]? = some (.lst ds)) (g : ixN ds.length k = some n) : putIx δ d (.cell p) (.int k) μ = .nx δ (μ.set p (.lst (ds.set n d))) := by
  simp only [putIx, h, g]
theorem ix_mid {μ ρ : Mu} {i : Int} {ds : List D} {d : D} (g : atI ds i = some d) : ixF (.cell μ.length) (.int i) (μ ++ .lst ds :: ρ) = .ok d (μ ++ .lst ds :: ρ) := ix_cell at_mid g
theorem put_mid {μ ρ : Mu} {k : Int} {n : Nat} {ds : List D} {d : D} {δ : Env3} (g : ixN ds.length k = some n) : putIx δ d (.cell μ.length) (.int k) (μ ++ .lst ds :: ρ) = .nx δ (μ ++ .lst (ds.set n d) :: ρ) := by
  rw [put_cell at_mid g, set_mid]
theorem ixn0 {a b c : D} : ixN [a, b, c].length 0 = some 0 := by simp [ixN]
theorem ixn2 {a b c : D} : ixN [a, b, c].length 2 = some 2 := by simp [ixN]
theorem fmod_pos {x m : Int} (h : 0 < m) : 0 ≤ x.fmod m ∧ x.fmod m < m := by
  rw [Int.fmod_eq_emod_of_nonneg _ (by omega)]
  exact ⟨Int.emod_nonneg _ (by omega), Int.emod_lt_of_pos _ h⟩
theorem fdiv_pos {x m : Int} (h : 0 < m) (hx : 0 ≤ x) : 0 ≤ x.fdiv m ∧ x.fdiv m ≤ x := by
  rw [Int.fdiv_eq_ediv_of_nonneg _ (by omega)]
  exact ⟨Int.ediv_nonneg hx (by omega), Int.ediv_le_self _ hx⟩
theorem bd_of {x : Int} (h : 0 ≤ x) (g : x < 4294967296) : Bd 32 x := by
  show x.natAbs < 2 ^ 32
  omega
theorem draw_ok {n m : Nat} {l : Int} {cl : Cel} (h : Sc m cl) (hl : 0 < l) (bl : Bd 9000 l) (hm : m ≤ 10000) : ∃ r cl', Sc (m + 1) cl' ∧ 0 ≤ r ∧ r < l ∧ ∀ μ ρ : Mu, runS S (n + 1) 7 [.cell μ.length, .int l] (μ ++ cl :: ρ) = .ok (.int r) (μ ++ cl' :: ρ) := by
  obtain ⟨a, b, c, rfl, b0, b1, c0, c1⟩ := h
  have hl0 : l ≠ 0 := by omega
  have g0 : atI [D.int a, .int b, .int c] 0 = some (.int a) := rfl
  have g2 : atI [D.int a, .int b, .int c] 2 = some (.int c) := rfl
  by_cases ha : 0 < a
  · have r := fmod_pos (x := a) hl
    refine ⟨a.fmod l, .lst [.int (a.fdiv l), .int b, .int c], ⟨_, _, _, rfl, b0, b1, c0, by omega⟩, r.1, r.2, fun μ ρ => ?_⟩
    rw [run_raw (fi := f7) rfl rfl rfl]
    simp only [f7, b7, ix_mid g0, put_mid (k := 0) (n := 0) (show ixN [D.int a, .int b, .int c].length 0 = some 0 from rfl), cmp_ints (o := .Gt) (by decide) (by decide), intC, decide_eq_true ha, intB_mod hl0, intB_div hl0 bl (by decide), x_var, x_int, x_bl, x_str, x_non, x_glo, x_bin, x_un, x_cmp, x_cmp2, asBl_bl, x_and, x_or, x_not, x_ite, x_tup, x_lst, x_lstC, x_call, x_callK, x_mk, x_mkC, x_mkK, x_meth, x_attr, x_ix, x_bi, x_sl, x_fz, x_nil, x_cons, x_onone, asI_int, x_osome, x_tval, x_tand, x_tor, x_tnot, x_iseq, walkR_tup, walkR_lst, walkR_klst, x_irange1, x_irange2, x_itxt, walkT_str, x_ienum, enR_eq, x_izip, forG_nil, x_comp, compG_nil, x_cnone, x_csome, x_bm, x_dnew, wipeD_cons, wipeD_nil, s_set_, s_par_, s_unp_, s_ret_, s_retN_, s_drop_, s_ife_, s_fr_, s_brk_, s_ct_, s_pass_, s_never_, s_setIx_, s_setAttr_, s_nil_, s_cons_, bind_ok, toS_ok, seq_nx, seq_ret, seq_brk, seq_ct, loop_nx, loop_ct, loop_brk, loop_ret, toR_ret, toR_nx, bin_ints, intB_add, intB_sub, biS, toIntS, setAll, List.getElem?_cons_zero, List.getElem?_cons_succ, List.set_cons_zero, List.set_cons_succ, List.map_cons, List.map_nil, List.length_cons, List.length_nil, List.cons_append, List.nil_append, List.append_nil, List.replicate_succ, List.replicate_zero, Nat.reduceAdd, Nat.reduceSub, Nat.zero_add, Nat.reduceLeDiff, if_true, if_false, Bool.false_eq_true, decide_true, decide_false, Bool.not_true, Bool.not_false, x_eFld, x_eIs, s_raise_, s_raise0_, s_aug_, aug_add, aug_sub, s_tryA_, s_tryO_, catchA_nx, catchA_ret, catchA_brk, catchA_ct, catchO_nx, catchO_ret, catchO_brk, catchO_ct, gone_nx, gone_ret, gone_brk, gone_ct, noX_nx, noX_ret, noX_brk, noX_ct, bind_exc, toS_exc, seq_exc, loop_exc, toR_exc, eFldS, eIsS, gl0, gl1, gl2, gl3, gl4, gl5, gl6, xs0_0, xs0_1, xs0_2, xs0_3, xi1, xk1_0, ra1, xs1_0, xs1_1, xs1_2, xs1_3, xi2, xk2_0, xk2_1, ra2, xs2_0, xs2_1, xs2_2, xs2_3, mi3_19, mi3_20, mi3_21, mi3_22, mi3_23, mi3_24, mi3_25, mi3_26, mi3_27, mi3_28, mi3_29, mi3_30, mi3_31, mi3_32, mi3_33, mi3_34, mi3_35, mi3_36, mi3_37, mi3_38, mi3_39, mi3_40, mi3_41, fd3_0, fd3_1, ho3]
  · have k1 : atI [D.int a, .int b, .int (c + 1)] 1 = some (.int b) := rfl
    have k2 : atI [D.int a, .int b, .int (c + 1)] 2 = some (.int (c + 1)) := rfl
    have m1 : (7919 : Int) * (c + 1) < 4294967296 := by omega
    have q1 := fmod_pos (x := (b + 7919 * (c + 1) + 1) * 48271) (m := 2147483647) (by decide)
    generalize e1 : ((b + 7919 * (c + 1) + 1) * 48271).fmod 2147483647 = n1 at q1
    have d1 := fdiv_pos (x := n1) (m := 1009) (by decide) q1.1
    have q2 := fmod_pos (x := n1 * (n1.fdiv 1009 + 69621)) (m := 2147483647) (by decide)
    generalize e2 : (n1 * (n1.fdiv 1009 + 69621)).fmod 2147483647 = n2 at q2
    have d2 := fdiv_pos (x := n2) (m := 2003) (by decide) q2.1
    have q3 := fmod_pos (x := n2 * (n2.fdiv 2003 + 40692)) (m := 2147483399) (by decide)
    generalize e3 : (n2 * (n2.fdiv 2003 + 40692)).fmod 2147483399 = n3 at q3
    have r := fmod_pos (x := n3.fdiv 7) hl
    refine ⟨(n3.fdiv 7).fmod l, .lst [.int a, .int b, .int (c + 1)], ⟨_, _, _, rfl, b0, b1, by omega, by omega⟩, r.1, r.2, fun μ ρ => ?_⟩
    rw [run_raw (fi := f7) rfl rfl rfl]
    simp only [f7, b7, ix_mid g0, ix_mid g2, ix_mid k1, ix_mid k2, put_mid (k := 2) (n := 2) (show ixN [D.int a, .int b, .int c].length 2 = some 2 from rfl), cmp_ints (o := .Gt) (by decide) (by decide), intC, decide_eq_false ha, intB_mod hl0,
      intB_mul (bd_of (x := 7919) (by decide) (by decide)) (bd_of (x := c + 1) (by omega) (by omega)) (by decide), intB_mul (bd_of (x := b + 7919 * (c + 1) + 1) (by omega) (by omega)) (bd_of (x := 48271) (by decide) (by decide)) (by decide), intB_mod (show (2147483647 : Int) ≠ 0 by decide), e1,
      intB_div (show (1009 : Int) ≠ 0 by decide) (bd_of (x := 1009) (by decide) (by decide)) (by decide), intB_mul (bd_of (x := n1) (by omega) (by omega)) (bd_of (x := n1.fdiv 1009 + 69621) (by omega) (by omega)) (by decide), e2,
      intB_div (show (2003 : Int) ≠ 0 by decide) (bd_of (x := 2003) (by decide) (by decide)) (by decide), intB_mul (bd_of (x := n2) (by omega) (by omega)) (bd_of (x := n2.fdiv 2003 + 40692) (by omega) (by omega)) (by decide), intB_mod (show (2147483399 : Int) ≠ 0 by decide), e3,
      intB_div (show (7 : Int) ≠ 0 by decide) (bd_of (x := 7) (by decide) (by decide)) (by decide), x_var, x_int, x_bl, x_str, x_non, x_glo, x_bin, x_un, x_cmp, x_cmp2, asBl_bl, x_and, x_or, x_not, x_ite, x_tup, x_lst, x_lstC, x_call, x_callK, x_mk, x_mkC, x_mkK, x_meth, x_attr, x_ix, x_bi, x_sl, x_fz, x_nil, x_cons, x_onone, asI_int, x_osome, x_tval, x_tand, x_tor, x_tnot, x_iseq, walkR_tup, walkR_lst, walkR_klst, x_irange1, x_irange2, x_itxt, walkT_str, x_ienum, enR_eq, x_izip, forG_nil, x_comp, compG_nil, x_cnone, x_csome, x_bm, x_dnew, wipeD_cons, wipeD_nil, s_set_, s_par_, s_unp_, s_ret_, s_retN_, s_drop_, s_ife_, s_fr_, s_brk_, s_ct_, s_pass_, s_never_, s_setIx_, s_setAttr_, s_nil_, s_cons_, bind_ok, toS_ok, seq_nx, seq_ret, seq_brk, seq_ct, loop_nx, loop_ct, loop_brk, loop_ret, toR_ret, toR_nx, bin_ints, intB_add, intB_sub, biS, toIntS, setAll, List.getElem?_cons_zero, List.getElem?_cons_succ, List.set_cons_zero, List.set_cons_succ, List.map_cons, List.map_nil, List.length_cons, List.length_nil, List.cons_append, List.nil_append, List.append_nil, List.replicate_succ, List.replicate_zero, Nat.reduceAdd, Nat.reduceSub, Nat.zero_add, Nat.reduceLeDiff, if_true, if_false, Bool.false_eq_true, decide_true, decide_false, Bool.not_true, Bool.not_false, x_eFld, x_eIs, s_raise_, s_raise0_, s_aug_, aug_add, aug_sub, s_tryA_, s_tryO_, catchA_nx, catchA_ret, catchA_brk, catchA_ct, catchO_nx, catchO_ret, catchO_brk, catchO_ct, gone_nx, gone_ret, gone_brk, gone_ct, noX_nx, noX_ret, noX_brk, noX_ct, bind_exc, toS_exc, seq_exc, loop_exc, toR_exc, eFldS, eIsS, gl0, gl1, gl2, gl3, gl4, gl5, gl6, xs0_0, xs0_1, xs0_2, xs0_3, xi1, xk1_0, ra1, xs1_0, xs1_1, xs1_2, xs1_3, xi2, xk2_0, xk2_1, ra2, xs2_0, xs2_1, xs2_2, xs2_3, mi3_19, mi3_20, mi3_21, mi3_22, mi3_23, mi3_24, mi3_25, mi3_26, mi3_27, mi3_28, mi3_29, mi3_30, mi3_31, mi3_32, mi3_33, mi3_34, mi3_35, mi3_36, mi3_37, mi3_38, mi3_39, mi3_40, mi3_41, fd3_0, fd3_1, ho3]
theorem p18 {m : Mu} : intB .Pow 10 18 m = .ok (.int 1000000000000000000) m := rfl
theorem p40 {m : Mu} : intB .Pow 10 40 m = .ok (.int 10000000000000000000000000000000000000000) m := rfl
theorem stream_ok {n : Nat} {c : Int} : ∃ cl, Sc 0 cl ∧ ∀ μ : Mu, runS S (n + 1) 6 [.int c] μ = .ok (.cell μ.length) (μ ++ [cl]) := by
  have r := fmod_pos (x := c) (m := 2147483629) (by decide)
  by_cases h : 1000000000000000000 ≤ c
  · refine ⟨.lst [.int c, .int (c.fmod 2147483629), .int 0], ⟨_, _, _, rfl, r.1, r.2, by decide, by decide⟩, fun μ => ?_⟩
    rw [run_raw (fi := f6) rfl rfl rfl]
    simp only [f6, b6, p18, cmp_ints (o := .GtE) (by decide) (by decide), intC, decide_eq_true h, intB_mod (show (2147483629 : Int) ≠ 0 by decide), x_var, x_int, x_bl, x_str, x_non, x_glo, x_bin, x_un, x_cmp, x_cmp2, asBl_bl, x_and, x_or, x_not, x_ite, x_tup, x_lst, x_lstC, x_call, x_callK, x_mk, x_mkC, x_mkK, x_meth, x_attr, x_ix, x_bi, x_sl, x_fz, x_nil, x_cons, x_onone, asI_int, x_osome, x_tval, x_tand, x_tor, x_tnot, x_iseq, walkR_tup, walkR_lst, walkR_klst, x_irange1, x_irange2, x_itxt, walkT_str, x_ienum, enR_eq, x_izip, forG_nil, x_comp, compG_nil, x_cnone, x_csome, x_bm, x_dnew, wipeD_cons, wipeD_nil, s_set_, s_par_, s_unp_, s_ret_, s_retN_, s_drop_, s_ife_, s_fr_, s_brk_, s_ct_, s_pass_, s_never_, s_setIx_, s_setAttr_, s_nil_, s_cons_, bind_ok, toS_ok, seq_nx, seq_ret, seq_brk, seq_ct, loop_nx, loop_ct, loop_brk, loop_ret, toR_ret, toR_nx, bin_ints, intB_add, intB_sub, biS, toIntS, setAll, List.getElem?_cons_zero, List.getElem?_cons_succ, List.set_cons_zero, List.set_cons_succ, List.map_cons, List.map_nil, List.length_cons, List.length_nil, List.cons_append, List.nil_append, List.append_nil, List.replicate_succ, List.replicate_zero, Nat.reduceAdd, Nat.reduceSub, Nat.zero_add, Nat.reduceLeDiff, if_true, if_false, Bool.false_eq_true, decide_true, decide_false, Bool.not_true, Bool.not_false, x_eFld, x_eIs, s_raise_, s_raise0_, s_aug_, aug_add, aug_sub, s_tryA_, s_tryO_, catchA_nx, catchA_ret, catchA_brk, catchA_ct, catchO_nx, catchO_ret, catchO_brk, catchO_ct, gone_nx, gone_ret, gone_brk, gone_ct, noX_nx, noX_ret, noX_brk, noX_ct, bind_exc, toS_exc, seq_exc, loop_exc, toR_exc, eFldS, eIsS, gl0, gl1, gl2, gl3, gl4, gl5, gl6, xs0_0, xs0_1, xs0_2, xs0_3, xi1, xk1_0, ra1, xs1_0, xs1_1, xs1_2, xs1_3, xi2, xk2_0, xk2_1, ra2, xs2_0, xs2_1, xs2_2, xs2_3, mi3_19, mi3_20, mi3_21, mi3_22, mi3_23, mi3_24, mi3_25, mi3_26, mi3_27, mi3_28, mi3_29, mi3_30, mi3_31, mi3_32, mi3_33, mi3_34, mi3_35, mi3_36, mi3_37, mi3_38, mi3_39, mi3_40, mi3_41, fd3_0, fd3_1, ho3]
  · refine ⟨.lst [.int 0, .int (c.fmod 2147483629), .int 0], ⟨_, _, _, rfl, r.1, r.2, by decide, by decide⟩, fun μ => ?_⟩
    rw [run_raw (fi := f6) rfl rfl rfl]
    simp only [f6, b6, p18, cmp_ints (o := .GtE) (by decide) (by decide), intC, decide_eq_false h, intB_mod (show (2147483629 : Int) ≠ 0 by decide), x_var, x_int, x_bl, x_str, x_non, x_glo, x_bin, x_un, x_cmp, x_cmp2, asBl_bl, x_and, x_or, x_not, x_ite, x_tup, x_lst, x_lstC, x_call, x_callK, x_mk, x_mkC, x_mkK, x_meth, x_attr, x_ix, x_bi, x_sl, x_fz, x_nil, x_cons, x_onone, asI_int, x_osome, x_tval, x_tand, x_tor, x_tnot, x_iseq, walkR_tup, walkR_lst, walkR_klst, x_irange1, x_irange2, x_itxt, walkT_str, x_ienum, enR_eq, x_izip, forG_nil, x_comp, compG_nil, x_cnone, x_csome, x_bm, x_dnew, wipeD_cons, wipeD_nil, s_set_, s_par_, s_unp_, s_ret_, s_retN_, s_drop_, s_ife_, s_fr_, s_brk_, s_ct_, s_pass_, s_never_, s_setIx_, s_setAttr_, s_nil_, s_cons_, bind_ok, toS_ok, seq_nx, seq_ret, seq_brk, seq_ct, loop_nx, loop_ct, loop_brk, loop_ret, toR_ret, toR_nx, bin_ints, intB_add, intB_sub, biS, toIntS, setAll, List.getElem?_cons_zero, List.getElem?_cons_succ, List.set_cons_zero, List.set_cons_succ, List.map_cons, List.map_nil, List.length_cons, List.length_nil, List.cons_append, List.nil_append, List.append_nil, List.replicate_succ, List.replicate_zero, Nat.reduceAdd, Nat.reduceSub, Nat.zero_add, Nat.reduceLeDiff, if_true, if_false, Bool.false_eq_true, decide_true, decide_false, Bool.not_true, Bool.not_false, x_eFld, x_eIs, s_raise_, s_raise0_, s_aug_, aug_add, aug_sub, s_tryA_, s_tryO_, catchA_nx, catchA_ret, catchA_brk, catchA_ct, catchO_nx, catchO_ret, catchO_brk, catchO_ct, gone_nx, gone_ret, gone_brk, gone_ct, noX_nx, noX_ret, noX_brk, noX_ct, bind_exc, toS_exc, seq_exc, loop_exc, toR_exc, eFldS, eIsS, gl0, gl1, gl2, gl3, gl4, gl5, gl6, xs0_0, xs0_1, xs0_2, xs0_3, xi1, xk1_0, ra1, xs1_0, xs1_1, xs1_2, xs1_3, xi2, xk2_0, xk2_1, ra2, xs2_0, xs2_1, xs2_2, xs2_3, mi3_19, mi3_20, mi3_21, mi3_22, mi3_23, mi3_24, mi3_25, mi3_26, mi3_27, mi3_28, mi3_29, mi3_30, mi3_31, mi3_32, mi3_33, mi3_34, mi3_35, mi3_36, mi3_37, mi3_38, mi3_39, mi3_40, mi3_41, fd3_0, fd3_1, ho3]
theorem bd136 {x : Int} (h : -80000000000000000000000000000000000000000 ≤ x) (g : x ≤ 80000000000000000000000000000000000000000) : Bd 136 x := by
  show x.natAbs < 2 ^ 136
  omega
/-- a small limit -/
theorem dr {n m : Nat} {cl : Cel} (h : Sc m cl) (l : Int) (hl : 0 < l) (bl : l < 4294967296) (hm : m ≤ 10000) : ∃ r cl', Sc (m + 1) cl' ∧ 0 ≤ r ∧ r < l ∧ ∀ μ ρ : Mu, runS S (n + 1) 7 [.cell μ.length, .int l] (μ ++ cl :: ρ) = .ok (.int r) (μ ++ cl' :: ρ) := draw_ok h hl ((bd_of (by omega) bl).mono (by decide)) hm
theorem top_ok {n m : Nat} {cl : Cel} (h : Sc m cl) (hm : m ≤ 9990) : ∃ r cl', Sc (m + 2) cl' ∧ -10000000000000000000000000000000000000000 ≤ r ∧ r ≤ 10000000000000000000000000000000000000000 ∧ ∀ μ ρ : Mu, runS S (n + 2) 8 [.cell μ.length] (μ ++ cl :: ρ) = .ok (.int r) (μ ++ cl' :: ρ) := by
  obtain ⟨k, c1, s1, k1, k2, e1⟩ := dr (n := n) h 8 (by decide) (by decide) (by omega)
  by_cases h0 : k = 0
  · obtain ⟨r, c2, s2, r1, r2, e2⟩ := draw_ok (n := n) s1 (l := 20000000000000000000000000000000000000001) (by decide) ((bd136 (by decide) (by decide)).mono (by decide)) (by omega)
    refine ⟨r - 10000000000000000000000000000000000000000, c2, s2, by omega, by omega, fun μ ρ => ?_⟩
    rw [run_raw (fi := f8) rfl rfl rfl]
    simp only [f8, b8, e1, cmp_ints (o := .Eq) (by decide) (by decide), intC, decide_eq_true h0, p40, intB_mul (x := 2) (y := 10000000000000000000000000000000000000000) (bd136 (by decide) (by decide)) (bd136 (by decide) (by decide)) (by decide), Int.reduceMul, Int.reduceAdd, e2, x_var, x_int, x_bl, x_str, x_non, x_glo, x_bin, x_un, x_cmp, x_cmp2, asBl_bl, x_and, x_or, x_not, x_ite, x_tup, x_lst, x_lstC, x_call, x_callK, x_mk, x_mkC, x_mkK, x_meth, x_attr, x_ix, x_bi, x_sl, x_fz, x_nil, x_cons, x_onone, asI_int, x_osome, x_tval, x_tand, x_tor, x_tnot, x_iseq, walkR_tup, walkR_lst, walkR_klst, x_irange1, x_irange2, x_itxt, walkT_str, x_ienum, enR_eq, x_izip, forG_nil, x_comp, compG_nil, x_cnone, x_csome, x_bm, x_dnew, wipeD_cons, wipeD_nil, s_set_, s_par_, s_unp_, s_ret_, s_retN_, s_drop_, s_ife_, s_fr_, s_brk_, s_ct_, s_pass_, s_never_, s_setIx_, s_setAttr_, s_nil_, s_cons_, bind_ok, toS_ok, seq_nx, seq_ret, seq_brk, seq_ct, loop_nx, loop_ct, loop_brk, loop_ret, toR_ret, toR_nx, bin_ints, intB_add, intB_sub, biS, toIntS, setAll, List.getElem?_cons_zero, List.getElem?_cons_succ, List.set_cons_zero, List.set_cons_succ, List.map_cons, List.map_nil, List.length_cons, List.length_nil, List.cons_append, List.nil_append, List.append_nil, List.replicate_succ, List.replicate_zero, Nat.reduceAdd, Nat.reduceSub, Nat.zero_add, Nat.reduceLeDiff, if_true, if_false, Bool.false_eq_true, decide_true, decide_false, Bool.not_true, Bool.not_false, x_eFld, x_eIs, s_raise_, s_raise0_, s_aug_, aug_add, aug_sub, s_tryA_, s_tryO_, catchA_nx, catchA_ret, catchA_brk, catchA_ct, catchO_nx, catchO_ret, catchO_brk, catchO_ct, gone_nx, gone_ret, gone_brk, gone_ct, noX_nx, noX_ret, noX_brk, noX_ct, bind_exc, toS_exc, seq_exc, loop_exc, toR_exc, eFldS, eIsS, gl0, gl1, gl2, gl3, gl4, gl5, gl6, xs0_0, xs0_1, xs0_2, xs0_3, xi1, xk1_0, ra1, xs1_0, xs1_1, xs1_2, xs1_3, xi2, xk2_0, xk2_1, ra2, xs2_0, xs2_1, xs2_2, xs2_3, mi3_19, mi3_20, mi3_21, mi3_22, mi3_23, mi3_24, mi3_25, mi3_26, mi3_27, mi3_28, mi3_29, mi3_30, mi3_31, mi3_32, mi3_33, mi3_34, mi3_35, mi3_36, mi3_37, mi3_38, mi3_39, mi3_40, mi3_41, fd3_0, fd3_1, ho3]
  · by_cases h1 : k = 1
    · obtain ⟨r, c2, s2, r1, r2, e2⟩ := dr (n := n) s1 2001 (by decide) (by decide) (by omega)
      refine ⟨r - 1000, c2, s2, by omega, by omega, fun μ ρ => ?_⟩
      rw [run_raw (fi := f8) rfl rfl rfl]
      simp only [f8, b8, e1, cmp_ints (o := .Eq) (by decide) (by decide), intC, decide_eq_false h0, decide_eq_true h1, e2, x_var, x_int, x_bl, x_str, x_non, x_glo, x_bin, x_un, x_cmp, x_cmp2, asBl_bl, x_and, x_or, x_not, x_ite, x_tup, x_lst, x_lstC, x_call, x_callK, x_mk, x_mkC, x_mkK, x_meth, x_attr, x_ix, x_bi, x_sl, x_fz, x_nil, x_cons, x_onone, asI_int, x_osome, x_tval, x_tand, x_tor, x_tnot, x_iseq, walkR_tup, walkR_lst, walkR_klst, x_irange1, x_irange2, x_itxt, walkT_str, x_ienum, enR_eq, x_izip, forG_nil, x_comp, compG_nil, x_cnone, x_csome, x_bm, x_dnew, wipeD_cons, wipeD_nil, s_set_, s_par_, s_unp_, s_ret_, s_retN_, s_drop_, s_ife_, s_fr_, s_brk_, s_ct_, s_pass_, s_never_, s_setIx_, s_setAttr_, s_nil_, s_cons_, bind_ok, toS_ok, seq_nx, seq_ret, seq_brk, seq_ct, loop_nx, loop_ct, loop_brk, loop_ret, toR_ret, toR_nx, bin_ints, intB_add, intB_sub, biS, toIntS, setAll, List.getElem?_cons_zero, List.getElem?_cons_succ, List.set_cons_zero, List.set_cons_succ, List.map_cons, List.map_nil, List.length_cons, List.length_nil, List.cons_append, List.nil_append, List.append_nil, List.replicate_succ, List.replicate_zero, Nat.reduceAdd, Nat.reduceSub, Nat.zero_add, Nat.reduceLeDiff, if_true, if_false, Bool.false_eq_true, decide_true, decide_false, Bool.not_true, Bool.not_false, x_eFld, x_eIs, s_raise_, s_raise0_, s_aug_, aug_add, aug_sub, s_tryA_, s_tryO_, catchA_nx, catchA_ret, catchA_brk, catchA_ct, catchO_nx, catchO_ret, catchO_brk, catchO_ct, gone_nx, gone_ret, gone_brk, gone_ct, noX_nx, noX_ret, noX_brk, noX_ct, bind_exc, toS_exc, seq_exc, loop_exc, toR_exc, eFldS, eIsS, gl0, gl1, gl2, gl3, gl4, gl5, gl6, xs0_0, xs0_1, xs0_2, xs0_3, xi1, xk1_0, ra1, xs1_0, xs1_1, xs1_2, xs1_3, xi2, xk2_0, xk2_1, ra2, xs2_0, xs2_1, xs2_2, xs2_3, mi3_19, mi3_20, mi3_21, mi3_22, mi3_23, mi3_24, mi3_25, mi3_26, mi3_27, mi3_28, mi3_29, mi3_30, mi3_31, mi3_32, mi3_33, mi3_34, mi3_35, mi3_36, mi3_37, mi3_38, mi3_39, mi3_40, mi3_41, fd3_0, fd3_1, ho3]
    · obtain ⟨r, c2, s2, r1, r2, e2⟩ := dr (n := n) s1 9 (by decide) (by decide) (by omega)
      refine ⟨r - 4, c2, s2, by omega, by omega, fun μ ρ => ?_⟩
      rw [run_raw (fi := f8) rfl rfl rfl]
      simp only [f8, b8, e1, cmp_ints (o := .Eq) (by decide) (by decide), intC, decide_eq_false h0, decide_eq_false h1, e2, x_var, x_int, x_bl, x_str, x_non, x_glo, x_bin, x_un, x_cmp, x_cmp2, asBl_bl, x_and, x_or, x_not, x_ite, x_tup, x_lst, x_lstC, x_call, x_callK, x_mk, x_mkC, x_mkK, x_meth, x_attr, x_ix, x_bi, x_sl, x_fz, x_nil, x_cons, x_onone, asI_int, x_osome, x_tval, x_tand, x_tor, x_tnot, x_iseq, walkR_tup, walkR_lst, walkR_klst, x_irange1, x_irange2, x_itxt, walkT_str, x_ienum, enR_eq, x_izip, forG_nil, x_comp, compG_nil, x_cnone, x_csome, x_bm, x_dnew, wipeD_cons, wipeD_nil, s_set_, s_par_, s_unp_, s_ret_, s_retN_, s_drop_, s_ife_, s_fr_, s_brk_, s_ct_, s_pass_, s_never_, s_setIx_, s_setAttr_, s_nil_, s_cons_, bind_ok, toS_ok, seq_nx, seq_ret, seq_brk, seq_ct, loop_nx, loop_ct, loop_brk, loop_ret, toR_ret, toR_nx, bin_ints, intB_add, intB_sub, biS, toIntS, setAll, List.getElem?_cons_zero, List.getElem?_cons_succ, List.set_cons_zero, List.set_cons_succ, List.map_cons, List.map_nil, List.length_cons, List.length_nil, List.cons_append, List.nil_append, List.append_nil, List.replicate_succ, List.replicate_zero, Nat.reduceAdd, Nat.reduceSub, Nat.zero_add, Nat.reduceLeDiff, if_true, if_false, Bool.false_eq_true, decide_true, decide_false, Bool.not_true, Bool.not_false, x_eFld, x_eIs, s_raise_, s_raise0_, s_aug_, aug_add, aug_sub, s_tryA_, s_tryO_, catchA_nx, catchA_ret, catchA_brk, catchA_ct, catchO_nx, catchO_ret, catchO_brk, catchO_ct, gone_nx, gone_ret, gone_brk, gone_ct, noX_nx, noX_ret, noX_brk, noX_ct, bind_exc, toS_exc, seq_exc, loop_exc, toR_exc, eFldS, eIsS, gl0, gl1, gl2, gl3, gl4, gl5, gl6, xs0_0, xs0_1, xs0_2, xs0_3, xi1, xk1_0, ra1, xs1_0, xs1_1, xs1_2, xs1_3, xi2, xk2_0, xk2_1, ra2, xs2_0, xs2_1, xs2_2, xs2_3, mi3_19, mi3_20, mi3_21, mi3_22, mi3_23, mi3_24, mi3_25, mi3_26, mi3_27, mi3_28, mi3_29, mi3_30, mi3_31, mi3_32, mi3_33, mi3_34, mi3_35, mi3_36, mi3_37, mi3_38, mi3_39, mi3_40, mi3_41, fd3_0, fd3_1, ho3]
end K04
namespace K04
open PySem PySem.Spec PyProof.Rows L2 L3
theorem c_eq {S : Sig} {run : Nat → List D → PM D} {i j : Int} {m : Mu} : cmpS S run .Eq (.int i) (.int j) m = .ok (.bl (decide (i = j))) m := cmp_ints (o := .Eq) (by decide) (by decide) i j m
theorem c_ne {S : Sig} {run : Nat → List D → PM D} {i j : Int} {m : Mu} : cmpS S run .NotEq (.int i) (.int j) m = .ok (.bl (!decide (i = j))) m := cmp_ints (o := .NotEq) (by decide) (by decide) i j m
theorem c_lt {S : Sig} {run : Nat → List D → PM D} {i j : Int} {m : Mu} : cmpS S run .Lt (.int i) (.int j) m = .ok (.bl (decide (i < j))) m := cmp_ints (o := .Lt) (by decide) (by decide) i j m
theorem c_gt {S : Sig} {run : Nat → List D → PM D} {i j : Int} {m : Mu} : cmpS S run .Gt (.int i) (.int j) m = .ok (.bl (decide (j < i))) m := cmp_ints (o := .Gt) (by decide) (by decide) i j m
theorem dt {p : Prop} [Decidable p] (h : p) : decide p = true := decide_eq_true h
theorem df {p : Prop} [Decidable p] (h : ¬ p) : decide p = false := decide_eq_false h
theorem atI_nat {ds : List D} {k : Nat} {d : D} (h : ds[k]? = some d) : atI ds (k : Int) = some d := by
  have l := (List.getElem?_eq_some_iff.mp h).1
  have e : ixN ds.length (k : Int) = some k := by
    unfold ixN
    simp
    omega
  unfold atI
  rw [e]
  exact h
theorem bl_low {n : Nat} {b : Bool} : D.low n (.bl b) = true := by simp [D.low]
/-- a comprehension over a list or a tuple, frozen -/
theorem fz_comp {t : Tg} {Ft : FT} {Fe : FE} {δ : Env3} {μ : Mu} {f : D → D} {g : D → Bool} {ds : List D} {gs : List (Nat × List D)} (hg : ∀ j, gOk gs (μ ++ j)) (hl : ds.length ≤ 1000000)
    (h : ∀ d ∈ ds, ∃ δ', t.put d δ = some δ' ∧ ∀ a, Ft δ' (μ ++ [.lst a]) = .ok (g d) (μ ++ [.lst a]) ∧ (g d = true → Fe δ' (μ ++ [.lst a]) = .ok (f d) (μ ++ [.lst a])))
    (lo : ∀ d ∈ ds, D.low μ.length (f d) = true) :
    ((compG gs t Ft Fe μ.length δ ds (μ ++ [.lst []])).bind fun d m => closeFz μ d m) = .ok (.lst ((ds.filter g).map f)) μ := by
  have q := compG_pure (t := t) (Ft := Ft) (Fe := Fe) (δ := δ) (μ := μ) (j := []) (f := f) (g := g) (gs := gs) (fun a => hg _) ds [] (by simpa using hl) h
  rw [q, bind_ok, List.nil_append]
  exact closeFz_lst (j := []) (lows_all fun d hd => by
    obtain ⟨x, hx, rfl⟩ := List.mem_map.mp hd
    exact lo x ((List.mem_filter.mp hx).1))
theorem filter_all {ds : List D} : ds.filter (fun _ => true) = ds := List.filter_eq_self.mpr fun _ _ => rfl
theorem c_le {S : Sig} {run : Nat → List D → PM D} {i j : Int} {m : Mu} : cmpS S run .LtE (.int i) (.int j) m = .ok (.bl (decide (i ≤ j))) m := cmp_ints (o := .LtE) (by decide) (by decide) i j m
theorem c_ge {S : Sig} {run : Nat → List D → PM D} {i j : Int} {m : Mu} : cmpS S run .GtE (.int i) (.int j) m = .ok (.bl (decide (j ≤ i))) m := cmp_ints (o := .GtE) (by decide) (by decide) i j m
theorem c_str {S : Sig} {run : Nat → List D → PM D} {a b : Str} {m : Mu} : cmpS S run .Eq (.str a) (.str b) m = .ok (.bl (decide (a = b))) m := by
  rw [cmpS_main (by decide) (by decide)]
  show Res.ok (D.bl (false != decide (a = b))) m = _
  simp
theorem c_strN {S : Sig} {run : Nat → List D → PM D} {a b : Str} {m : Mu} : cmpS S run .NotEq (.str a) (.str b) m = .ok (.bl (!decide (a = b))) m := by
  rw [cmpS_main (by decide) (by decide)]
  show Res.ok (D.bl (true != decide (a = b))) m = _
  simp
theorem c_blN {S : Sig} {run : Nat → List D → PM D} {a : Bool} {m : Mu} : cmpS S run .NotEq (.bl a) (.bl a) m = .ok (.bl false) m := by
  rw [cmpS_main (by decide) (by decide)]
  cases a <;> rfl
theorem forL_put {t : Tg} {B : FS} {d : D} {ds : List D} {δ δ' : Env3} {μ : Mu} (h : t.put d δ = some δ') : forL t B (d :: ds) δ μ = (B δ' μ).loop (forL t B ds) := by
  rw [forL]
  simp only [h]
end K04
namespace K04
open PySem PySem.Spec PyProof.Rows L2 L3
/-! ### texts of whole numbers -/
theorem forL_st {t : Tg} {B : FS} {P : Env3 → Prop} {μ : Mu} : ∀ (ds : List D) (δ : Env3), P δ → (∀ d ∈ ds, ∀ δ, P δ → ∃ δ' δ2, t.put d δ = some δ' ∧ P δ2 ∧ B δ' μ = .nx δ2 μ) → ∃ δ2, P δ2 ∧ forL t B ds δ μ = .nx δ2 μ
  | [], δ, h, _ => ⟨δ, h, rfl⟩
  | d :: ds, δ, h, g => by
    obtain ⟨δ', δ2, e, h2, e2⟩ := g d (List.mem_cons_self ..) δ h
    obtain ⟨δ3, h3, e3⟩ := forL_st ds δ2 h2 fun x hx => g x (List.mem_cons_of_mem _ hx)
    exact ⟨δ3, h3, by rw [forL_put e, e2, loop_nx, e3]⟩
def dg (c : Nat) : Bool := decide (48 ≤ c) && decide (c ≤ 57)
theorem dg_iff {c : Nat} : dg c = true ↔ 48 ≤ c ∧ c ≤ 57 := by simp [dg]
theorem dig_cps : ("0123456789" : Str).cps.toList = [48, 49, 50, 51, 52, 53, 54, 55, 56, 57] := by decide +kernel
theorem digit_in (c : Nat) : decide (c ∈ ("0123456789" : Str).cps.toList) = dg c := by
  rw [dig_cps, Bool.eq_iff_iff, dg_iff]
  simp only [List.mem_cons, List.not_mem_nil, or_false, decide_eq_true_eq]
  omega
theorem notin_dig {run : Nat → List D → PM D} {c : Nat} {m : Mu} : cmpS S run .NotIn (.str ⟨#[c]⟩) (.str "0123456789") m = .ok (.bl (!dg c)) m := by
  show Res.ok (D.bl (true != decide (c ∈ ("0123456789" : Str).cps.toList))) m = _
  rw [digit_in]
  cases dg c <;> rfl
theorem len_str {z : Str} {m : Mu} (h : z.length ≤ 1000000) : lenS (.str z) m = .ok (.int (z.length : Nat)) m := by
  show (if z.length ≤ 1000000 then Res.ok (D.int (z.length : Nat)) m else .stuck) = _
  rw [if_pos h]
theorem ix_str0 {z : Str} {c : Nat} {r : List Nat} {m : Mu} (e : TL.tl z = c :: r) (h : z.length ≤ 1000000) : ixF (.str z) (.int 0) m = .ok (.str ⟨#[c]⟩) m := by
  have a : atI z.cps.toList 0 = some c := by
    show atI (TL.tl z) 0 = _
    rw [e]
    unfold atI
    have i : ixN (c :: r).length 0 = some 0 := by
      unfold ixN
      simp
    rw [i]
    rfl
  simp only [ixF, ixD, a, if_pos h]
theorem int_str {z : Str} {k : Int} {m : Mu} (e : PySem.intText? z = some k) (h : z.length ≤ 640) : toIntS (.str z) m = .ok (.int k) m := by
  show (match PySem.intText? z with
    | some n => if z.length ≤ 640 then Res.ok (D.int n) m else .stuck
    | none => .stuck) = _
  rw [e]
  dsimp only
  rw [if_pos h]
/-- the number that a text writes -/
def wZ (z : Str) : Option Nat :=
  if z.length = 0 ∨ 60 < z.length then none
  else if (TL.tl z).all dg = false then none
  else if 1 < z.length ∧ (TL.tl z).head? = some 48 then none
  else some (NumText.digitsVal (TL.tl z))
theorem val_bd : ∀ (l : List Nat) (a : Nat), (∀ c ∈ l, dg c = true) → l.foldl (fun acc c => acc * 10 + (c - 48)) a < (a + 1) * 10 ^ l.length
  | [], a, _ => by simp
  | c :: l, a, h => by
    have hc := dg_iff.mp (h c (List.mem_cons_self ..))
    have q := val_bd l (a * 10 + (c - 48)) fun d hd => h d (List.mem_cons_of_mem _ hd)
    have z : (a * 10 + (c - 48) + 1) * 10 ^ l.length ≤ ((a + 1) * 10) * 10 ^ l.length := Nat.mul_le_mul_right _ (by omega)
    rw [List.foldl_cons, List.length_cons, Nat.pow_succ, Nat.mul_comm (10 ^ l.length) 10, ← Nat.mul_assoc]
    omega
theorem wZ_lt {z : Str} {k : Nat} (h : wZ z = some k) : k < 10 ^ 60 := by
  unfold wZ at h
  split at h
  · cases h
  · rename_i h1
    split at h
    · cases h
    · rename_i h2
      split at h
      · cases h
      · injection h with h
        have h2 : (TL.tl z).all dg = true := by
          cases q : (TL.tl z).all dg with
          | true => rfl
          | false => exact absurd q h2
        have q := val_bd (TL.tl z) 0 fun c hc => List.all_eq_true.mp h2 c hc
        have e : NumText.digitsVal (TL.tl z) = (TL.tl z).foldl (fun acc c => acc * 10 + (c - 48)) 0 := rfl
        rw [← e, h, Nat.zero_add, Nat.one_mul, ← TL.len_tl] at q
        exact Nat.lt_of_lt_of_le q (Nat.pow_le_pow_right (by decide) (by omega))
theorem wZ_slash {z : Str} (h : 47 ∈ TL.tl z) : wZ z = none := by
  unfold wZ
  split
  · rfl
  · have q : (TL.tl z).all dg = false := by
      rw [List.all_eq_false]
      exact ⟨47, h, by decide⟩
    rw [if_pos q]
def optI : Option Nat → Int
  | some k => k
  | none => -1
def optD : Option Nat → D
  | some k => .int k
  | none => .non
abbrev whB : JB := match b5 with
  | .cons _ (.cons (.fr _ _ b) _) => b
  | _ => .nil
theorem wh_loop {n : Nat} {μ : Mu} {x : D} : ∀ (cs : List Nat) (y : Option D), (cs.all dg = true → ∃ y', forL (.one 1) (semB S (runS S n) whB) (cs.map fun c => D.str ⟨#[c]⟩) [some x, y] μ = .nx [some x, y'] μ) ∧
    (cs.all dg = false → forL (.one 1) (semB S (runS S n) whB) (cs.map fun c => D.str ⟨#[c]⟩) [some x, y] μ = .ret .non μ)
  | [], y => ⟨fun _ => ⟨y, rfl⟩, fun h => by cases h⟩
  | c :: cs, y => by
    obtain ⟨q1, q2⟩ := wh_loop (n := n) (μ := μ) (x := x) cs (some (.str ⟨#[c]⟩))
    have ni := notin_dig (run := runS S n) (c := c) (m := μ)
    rw [List.map_cons, forL_put (δ' := [some x, some (.str ⟨#[c]⟩)]) rfl, List.all_cons]
    cases hc : dg c with
    | true =>
      have e : semB S (runS S n) whB [some x, some (.str ⟨#[c]⟩)] μ = .nx [some x, some (.str ⟨#[c]⟩)] μ := by
        rw [hc] at ni
        simp only [whB, b5, ni, x_var, x_int, x_bl, x_str, x_non, x_glo, x_bin, x_un, x_cmp, x_cmp2, asBl_bl, x_and, x_or, x_not, x_ite, x_tup, x_lst, x_lstC, x_call, x_callK, x_mk, x_mkC, x_mkK, x_meth, x_attr, x_ix, x_bi, x_sl, x_fz, x_nil, x_cons, x_onone, asI_int, x_osome, x_tval, x_tand, x_tor, x_tnot, x_iseq, walkR_tup, walkR_lst, walkR_klst, x_irange1, x_irange2, x_itxt, walkT_str, x_ienum, enR_eq, x_izip, forG_nil, x_comp, compG_nil, x_cnone, x_csome, x_bm, x_dnew, wipeD_cons, wipeD_nil, s_set_, s_par_, s_unp_, s_ret_, s_retN_, s_drop_, s_ife_, s_fr_, s_brk_, s_ct_, s_pass_, s_never_, s_setIx_, s_setAttr_, s_nil_, s_cons_, bind_ok, toS_ok, seq_nx, seq_ret, seq_brk, seq_ct, loop_nx, loop_ct, loop_brk, loop_ret, toR_ret, toR_nx, bin_ints, intB_add, intB_sub, biS, toIntS, setAll, List.getElem?_cons_zero, List.getElem?_cons_succ, List.set_cons_zero, List.set_cons_succ, List.map_cons, List.map_nil, List.length_cons, List.length_nil, List.cons_append, List.nil_append, List.append_nil, List.replicate_succ, List.replicate_zero, Nat.reduceAdd, Nat.reduceSub, Nat.zero_add, Nat.reduceLeDiff, if_true, if_false, Bool.false_eq_true, decide_true, decide_false, Bool.not_true, Bool.not_false, x_eFld, x_eIs, s_raise_, s_raise0_, s_aug_, aug_add, aug_sub, s_tryA_, s_tryO_, catchA_nx, catchA_ret, catchA_brk, catchA_ct, catchO_nx, catchO_ret, catchO_brk, catchO_ct, gone_nx, gone_ret, gone_brk, gone_ct, noX_nx, noX_ret, noX_brk, noX_ct, bind_exc, toS_exc, seq_exc, loop_exc, toR_exc, eFldS, eIsS, gl0, gl1, gl2, gl3, gl4, gl5, gl6, xs0_0, xs0_1, xs0_2, xs0_3, xi1, xk1_0, ra1, xs1_0, xs1_1, xs1_2, xs1_3, xi2, xk2_0, xk2_1, ra2, xs2_0, xs2_1, xs2_2, xs2_3, mi3_19, mi3_20, mi3_21, mi3_22, mi3_23, mi3_24, mi3_25, mi3_26, mi3_27, mi3_28, mi3_29, mi3_30, mi3_31, mi3_32, mi3_33, mi3_34, mi3_35, mi3_36, mi3_37, mi3_38, mi3_39, mi3_40, mi3_41, fd3_0, fd3_1, ho3]
      rw [e, loop_nx, Bool.true_and]
      exact ⟨q1, q2⟩
    | false =>
      have e : semB S (runS S n) whB [some x, some (.str ⟨#[c]⟩)] μ = .ret .non μ := by
        rw [hc] at ni
        simp only [whB, b5, ni, x_var, x_int, x_bl, x_str, x_non, x_glo, x_bin, x_un, x_cmp, x_cmp2, asBl_bl, x_and, x_or, x_not, x_ite, x_tup, x_lst, x_lstC, x_call, x_callK, x_mk, x_mkC, x_mkK, x_meth, x_attr, x_ix, x_bi, x_sl, x_fz, x_nil, x_cons, x_onone, asI_int, x_osome, x_tval, x_tand, x_tor, x_tnot, x_iseq, walkR_tup, walkR_lst, walkR_klst, x_irange1, x_irange2, x_itxt, walkT_str, x_ienum, enR_eq, x_izip, forG_nil, x_comp, compG_nil, x_cnone, x_csome, x_bm, x_dnew, wipeD_cons, wipeD_nil, s_set_, s_par_, s_unp_, s_ret_, s_retN_, s_drop_, s_ife_, s_fr_, s_brk_, s_ct_, s_pass_, s_never_, s_setIx_, s_setAttr_, s_nil_, s_cons_, bind_ok, toS_ok, seq_nx, seq_ret, seq_brk, seq_ct, loop_nx, loop_ct, loop_brk, loop_ret, toR_ret, toR_nx, bin_ints, intB_add, intB_sub, biS, toIntS, setAll, List.getElem?_cons_zero, List.getElem?_cons_succ, List.set_cons_zero, List.set_cons_succ, List.map_cons, List.map_nil, List.length_cons, List.length_nil, List.cons_append, List.nil_append, List.append_nil, List.replicate_succ, List.replicate_zero, Nat.reduceAdd, Nat.reduceSub, Nat.zero_add, Nat.reduceLeDiff, if_true, if_false, Bool.false_eq_true, decide_true, decide_false, Bool.not_true, Bool.not_false, x_eFld, x_eIs, s_raise_, s_raise0_, s_aug_, aug_add, aug_sub, s_tryA_, s_tryO_, catchA_nx, catchA_ret, catchA_brk, catchA_ct, catchO_nx, catchO_ret, catchO_brk, catchO_ct, gone_nx, gone_ret, gone_brk, gone_ct, noX_nx, noX_ret, noX_brk, noX_ct, bind_exc, toS_exc, seq_exc, loop_exc, toR_exc, eFldS, eIsS, gl0, gl1, gl2, gl3, gl4, gl5, gl6, xs0_0, xs0_1, xs0_2, xs0_3, xi1, xk1_0, ra1, xs1_0, xs1_1, xs1_2, xs1_3, xi2, xk2_0, xk2_1, ra2, xs2_0, xs2_1, xs2_2, xs2_3, mi3_19, mi3_20, mi3_21, mi3_22, mi3_23, mi3_24, mi3_25, mi3_26, mi3_27, mi3_28, mi3_29, mi3_30, mi3_31, mi3_32, mi3_33, mi3_34, mi3_35, mi3_36, mi3_37, mi3_38, mi3_39, mi3_40, mi3_41, fd3_0, fd3_1, ho3]
      rw [e, Bool.false_and]
      exact ⟨fun h => (by cases h), fun _ => rfl⟩
theorem zero_str {c : Nat} : decide ((⟨#[c]⟩ : Str) = "0") = decide (c = 48) := by
  rw [Bool.eq_iff_iff]
  simp only [decide_eq_true_eq]
  have e0 : TL.tl ("0" : Str) = [48] := by decide +kernel
  constructor
  · intro z
    have := congrArg TL.tl z
    rw [e0] at this
    injection this
  · rintro rfl
    exact TL.ext_tl e0.symm
theorem dig_int {z : Str} (h : (TL.tl z).all dg = true) (h0 : z.length ≠ 0) (h1 : z.length ≤ 60) : PySem.intText? z = some ((NumText.digitsVal (TL.tl z) : Nat) : Int) :=
  PySem.intText_digits (fun c hc => dg_iff.mp (List.all_eq_true.mp h c hc)) (fun e => h0 (by rw [TL.len_tl]; show (z.cps.toList).length = 0; rw [e]; rfl)) (by omega)
theorem wh_ok {n : Nat} {z : Str} {μ : Mu} (hz : z.length ≤ 1000000) : runS S (n + 1) 5 [.str z] μ = .ok (optD (wZ z)) μ := by
  have ll := len_str (m := μ) hz
  rw [run_raw (fi := f5) rfl rfl rfl]
  by_cases z0 : z.length = 0
  · have e : wZ z = none := by
      unfold wZ
      rw [if_pos (.inl z0)]
    have i0 : ((z.length : Nat) : Int) = 0 := by omega
    rw [e]
    simp only [f5, b5, ll, c_eq, dt i0, optD, x_var, x_int, x_bl, x_str, x_non, x_glo, x_bin, x_un, x_cmp, x_cmp2, asBl_bl, x_and, x_or, x_not, x_ite, x_tup, x_lst, x_lstC, x_call, x_callK, x_mk, x_mkC, x_mkK, x_meth, x_attr, x_ix, x_bi, x_sl, x_fz, x_nil, x_cons, x_onone, asI_int, x_osome, x_tval, x_tand, x_tor, x_tnot, x_iseq, walkR_tup, walkR_lst, walkR_klst, x_irange1, x_irange2, x_itxt, walkT_str, x_ienum, enR_eq, x_izip, forG_nil, x_comp, compG_nil, x_cnone, x_csome, x_bm, x_dnew, wipeD_cons, wipeD_nil, s_set_, s_par_, s_unp_, s_ret_, s_retN_, s_drop_, s_ife_, s_fr_, s_brk_, s_ct_, s_pass_, s_never_, s_setIx_, s_setAttr_, s_nil_, s_cons_, bind_ok, toS_ok, seq_nx, seq_ret, seq_brk, seq_ct, loop_nx, loop_ct, loop_brk, loop_ret, toR_ret, toR_nx, bin_ints, intB_add, intB_sub, biS, toIntS, setAll, List.getElem?_cons_zero, List.getElem?_cons_succ, List.set_cons_zero, List.set_cons_succ, List.map_cons, List.map_nil, List.length_cons, List.length_nil, List.cons_append, List.nil_append, List.append_nil, List.replicate_succ, List.replicate_zero, Nat.reduceAdd, Nat.reduceSub, Nat.zero_add, Nat.reduceLeDiff, if_true, if_false, Bool.false_eq_true, decide_true, decide_false, Bool.not_true, Bool.not_false, x_eFld, x_eIs, s_raise_, s_raise0_, s_aug_, aug_add, aug_sub, s_tryA_, s_tryO_, catchA_nx, catchA_ret, catchA_brk, catchA_ct, catchO_nx, catchO_ret, catchO_brk, catchO_ct, gone_nx, gone_ret, gone_brk, gone_ct, noX_nx, noX_ret, noX_brk, noX_ct, bind_exc, toS_exc, seq_exc, loop_exc, toR_exc, eFldS, eIsS, gl0, gl1, gl2, gl3, gl4, gl5, gl6, xs0_0, xs0_1, xs0_2, xs0_3, xi1, xk1_0, ra1, xs1_0, xs1_1, xs1_2, xs1_3, xi2, xk2_0, xk2_1, ra2, xs2_0, xs2_1, xs2_2, xs2_3, mi3_19, mi3_20, mi3_21, mi3_22, mi3_23, mi3_24, mi3_25, mi3_26, mi3_27, mi3_28, mi3_29, mi3_30, mi3_31, mi3_32, mi3_33, mi3_34, mi3_35, mi3_36, mi3_37, mi3_38, mi3_39, mi3_40, mi3_41, fd3_0, fd3_1, ho3]
  · have i0 : ¬ ((z.length : Nat) : Int) = 0 := by omega
    by_cases z6 : 60 < z.length
    · have e : wZ z = none := by
        unfold wZ
        rw [if_pos (.inr z6)]
      have i6 : (60 : Int) < ((z.length : Nat) : Int) := by omega
      rw [e]
      simp only [f5, b5, ll, c_eq, df i0, c_gt, dt i6, optD, x_var, x_int, x_bl, x_str, x_non, x_glo, x_bin, x_un, x_cmp, x_cmp2, asBl_bl, x_and, x_or, x_not, x_ite, x_tup, x_lst, x_lstC, x_call, x_callK, x_mk, x_mkC, x_mkK, x_meth, x_attr, x_ix, x_bi, x_sl, x_fz, x_nil, x_cons, x_onone, asI_int, x_osome, x_tval, x_tand, x_tor, x_tnot, x_iseq, walkR_tup, walkR_lst, walkR_klst, x_irange1, x_irange2, x_itxt, walkT_str, x_ienum, enR_eq, x_izip, forG_nil, x_comp, compG_nil, x_cnone, x_csome, x_bm, x_dnew, wipeD_cons, wipeD_nil, s_set_, s_par_, s_unp_, s_ret_, s_retN_, s_drop_, s_ife_, s_fr_, s_brk_, s_ct_, s_pass_, s_never_, s_setIx_, s_setAttr_, s_nil_, s_cons_, bind_ok, toS_ok, seq_nx, seq_ret, seq_brk, seq_ct, loop_nx, loop_ct, loop_brk, loop_ret, toR_ret, toR_nx, bin_ints, intB_add, intB_sub, biS, toIntS, setAll, List.getElem?_cons_zero, List.getElem?_cons_succ, List.set_cons_zero, List.set_cons_succ, List.map_cons, List.map_nil, List.length_cons, List.length_nil, List.cons_append, List.nil_append, List.append_nil, List.replicate_succ, List.replicate_zero, Nat.reduceAdd, Nat.reduceSub, Nat.zero_add, Nat.reduceLeDiff, if_true, if_false, Bool.false_eq_true, decide_true, decide_false, Bool.not_true, Bool.not_false, x_eFld, x_eIs, s_raise_, s_raise0_, s_aug_, aug_add, aug_sub, s_tryA_, s_tryO_, catchA_nx, catchA_ret, catchA_brk, catchA_ct, catchO_nx, catchO_ret, catchO_brk, catchO_ct, gone_nx, gone_ret, gone_brk, gone_ct, noX_nx, noX_ret, noX_brk, noX_ct, bind_exc, toS_exc, seq_exc, loop_exc, toR_exc, eFldS, eIsS, gl0, gl1, gl2, gl3, gl4, gl5, gl6, xs0_0, xs0_1, xs0_2, xs0_3, xi1, xk1_0, ra1, xs1_0, xs1_1, xs1_2, xs1_3, xi2, xk2_0, xk2_1, ra2, xs2_0, xs2_1, xs2_2, xs2_3, mi3_19, mi3_20, mi3_21, mi3_22, mi3_23, mi3_24, mi3_25, mi3_26, mi3_27, mi3_28, mi3_29, mi3_30, mi3_31, mi3_32, mi3_33, mi3_34, mi3_35, mi3_36, mi3_37, mi3_38, mi3_39, mi3_40, mi3_41, fd3_0, fd3_1, ho3]
    · have i6 : ¬ (60 : Int) < ((z.length : Nat) : Int) := by omega
      obtain ⟨q1, q2⟩ := wh_loop (n := n) (μ := μ) (x := .str z) (TL.tl z) none
      simp only [whB, b5] at q1 q2
      have ch : chars z = (TL.tl z).map fun c => D.str ⟨#[c]⟩ := rfl
      cases ha : (TL.tl z).all dg with
      | false =>
        have e : wZ z = none := by
          unfold wZ
          rw [if_neg (by omega), if_pos ha]
        have q := q2 ha
        rw [e]
        simp only [f5, b5, ll, c_eq, df i0, c_gt, df i6, forG_nil, ch, q, optD, x_var, x_int, x_bl, x_str, x_non, x_glo, x_bin, x_un, x_cmp, x_cmp2, asBl_bl, x_and, x_or, x_not, x_ite, x_tup, x_lst, x_lstC, x_call, x_callK, x_mk, x_mkC, x_mkK, x_meth, x_attr, x_ix, x_bi, x_sl, x_fz, x_nil, x_cons, x_onone, asI_int, x_osome, x_tval, x_tand, x_tor, x_tnot, x_iseq, walkR_tup, walkR_lst, walkR_klst, x_irange1, x_irange2, x_itxt, walkT_str, x_ienum, enR_eq, x_izip, forG_nil, x_comp, compG_nil, x_cnone, x_csome, x_bm, x_dnew, wipeD_cons, wipeD_nil, s_set_, s_par_, s_unp_, s_ret_, s_retN_, s_drop_, s_ife_, s_fr_, s_brk_, s_ct_, s_pass_, s_never_, s_setIx_, s_setAttr_, s_nil_, s_cons_, bind_ok, toS_ok, seq_nx, seq_ret, seq_brk, seq_ct, loop_nx, loop_ct, loop_brk, loop_ret, toR_ret, toR_nx, bin_ints, intB_add, intB_sub, biS, toIntS, setAll, List.getElem?_cons_zero, List.getElem?_cons_succ, List.set_cons_zero, List.set_cons_succ, List.map_cons, List.map_nil, List.length_cons, List.length_nil, List.cons_append, List.nil_append, List.append_nil, List.replicate_succ, List.replicate_zero, Nat.reduceAdd, Nat.reduceSub, Nat.zero_add, Nat.reduceLeDiff, if_true, if_false, Bool.false_eq_true, decide_true, decide_false, Bool.not_true, Bool.not_false, x_eFld, x_eIs, s_raise_, s_raise0_, s_aug_, aug_add, aug_sub, s_tryA_, s_tryO_, catchA_nx, catchA_ret, catchA_brk, catchA_ct, catchO_nx, catchO_ret, catchO_brk, catchO_ct, gone_nx, gone_ret, gone_brk, gone_ct, noX_nx, noX_ret, noX_brk, noX_ct, bind_exc, toS_exc, seq_exc, loop_exc, toR_exc, eFldS, eIsS, gl0, gl1, gl2, gl3, gl4, gl5, gl6, xs0_0, xs0_1, xs0_2, xs0_3, xi1, xk1_0, ra1, xs1_0, xs1_1, xs1_2, xs1_3, xi2, xk2_0, xk2_1, ra2, xs2_0, xs2_1, xs2_2, xs2_3, mi3_19, mi3_20, mi3_21, mi3_22, mi3_23, mi3_24, mi3_25, mi3_26, mi3_27, mi3_28, mi3_29, mi3_30, mi3_31, mi3_32, mi3_33, mi3_34, mi3_35, mi3_36, mi3_37, mi3_38, mi3_39, mi3_40, mi3_41, fd3_0, fd3_1, ho3]
      | true =>
        obtain ⟨y', q⟩ := q1 ha
        have ti := dig_int ha z0 (by omega)
        have tb := int_str (m := μ) ti (by omega)
        have l640 : z.length ≤ 640 := by omega
        by_cases h1 : 1 < z.length
        · have i1 : (1 : Int) < ((z.length : Nat) : Int) := by omega
          cases hc : TL.tl z with
          | nil =>
            rw [TL.len_tl, hc] at h1
            cases h1
          | cons c r =>
            have ix := ix_str0 (m := μ) hc hz
            by_cases h4 : c = 48
            · have e : wZ z = none := by
                unfold wZ
                rw [if_neg (by omega), if_neg (by rw [ha]; decide), if_pos ⟨h1, by rw [hc, h4]; rfl⟩]
              rw [e]
              simp only [f5, b5, ll, c_eq, df i0, c_gt, df i6, forG_nil, ch, q, dt i1, ix, c_str, zero_str, dt h4, optD, x_var, x_int, x_bl, x_str, x_non, x_glo, x_bin, x_un, x_cmp, x_cmp2, asBl_bl, x_and, x_or, x_not, x_ite, x_tup, x_lst, x_lstC, x_call, x_callK, x_mk, x_mkC, x_mkK, x_meth, x_attr, x_ix, x_bi, x_sl, x_fz, x_nil, x_cons, x_onone, asI_int, x_osome, x_tval, x_tand, x_tor, x_tnot, x_iseq, walkR_tup, walkR_lst, walkR_klst, x_irange1, x_irange2, x_itxt, walkT_str, x_ienum, enR_eq, x_izip, forG_nil, x_comp, compG_nil, x_cnone, x_csome, x_bm, x_dnew, wipeD_cons, wipeD_nil, s_set_, s_par_, s_unp_, s_ret_, s_retN_, s_drop_, s_ife_, s_fr_, s_brk_, s_ct_, s_pass_, s_never_, s_setIx_, s_setAttr_, s_nil_, s_cons_, bind_ok, toS_ok, seq_nx, seq_ret, seq_brk, seq_ct, loop_nx, loop_ct, loop_brk, loop_ret, toR_ret, toR_nx, bin_ints, intB_add, intB_sub, biS, toIntS, setAll, List.getElem?_cons_zero, List.getElem?_cons_succ, List.set_cons_zero, List.set_cons_succ, List.map_cons, List.map_nil, List.length_cons, List.length_nil, List.cons_append, List.nil_append, List.append_nil, List.replicate_succ, List.replicate_zero, Nat.reduceAdd, Nat.reduceSub, Nat.zero_add, Nat.reduceLeDiff, if_true, if_false, Bool.false_eq_true, decide_true, decide_false, Bool.not_true, Bool.not_false, x_eFld, x_eIs, s_raise_, s_raise0_, s_aug_, aug_add, aug_sub, s_tryA_, s_tryO_, catchA_nx, catchA_ret, catchA_brk, catchA_ct, catchO_nx, catchO_ret, catchO_brk, catchO_ct, gone_nx, gone_ret, gone_brk, gone_ct, noX_nx, noX_ret, noX_brk, noX_ct, bind_exc, toS_exc, seq_exc, loop_exc, toR_exc, eFldS, eIsS, gl0, gl1, gl2, gl3, gl4, gl5, gl6, xs0_0, xs0_1, xs0_2, xs0_3, xi1, xk1_0, ra1, xs1_0, xs1_1, xs1_2, xs1_3, xi2, xk2_0, xk2_1, ra2, xs2_0, xs2_1, xs2_2, xs2_3, mi3_19, mi3_20, mi3_21, mi3_22, mi3_23, mi3_24, mi3_25, mi3_26, mi3_27, mi3_28, mi3_29, mi3_30, mi3_31, mi3_32, mi3_33, mi3_34, mi3_35, mi3_36, mi3_37, mi3_38, mi3_39, mi3_40, mi3_41, fd3_0, fd3_1, ho3]
            · have e : wZ z = some (NumText.digitsVal (TL.tl z)) := by
                unfold wZ
                rw [if_neg (by omega), if_neg (by rw [ha]; decide), if_neg (by rw [hc]; simp [h4])]
              rw [e]
              simp only [f5, b5, ll, c_eq, df i0, c_gt, df i6, forG_nil, ch, q, dt i1, ix, c_str, zero_str, df h4, ti, l640, optD, x_var, x_int, x_bl, x_str, x_non, x_glo, x_bin, x_un, x_cmp, x_cmp2, asBl_bl, x_and, x_or, x_not, x_ite, x_tup, x_lst, x_lstC, x_call, x_callK, x_mk, x_mkC, x_mkK, x_meth, x_attr, x_ix, x_bi, x_sl, x_fz, x_nil, x_cons, x_onone, asI_int, x_osome, x_tval, x_tand, x_tor, x_tnot, x_iseq, walkR_tup, walkR_lst, walkR_klst, x_irange1, x_irange2, x_itxt, walkT_str, x_ienum, enR_eq, x_izip, forG_nil, x_comp, compG_nil, x_cnone, x_csome, x_bm, x_dnew, wipeD_cons, wipeD_nil, s_set_, s_par_, s_unp_, s_ret_, s_retN_, s_drop_, s_ife_, s_fr_, s_brk_, s_ct_, s_pass_, s_never_, s_setIx_, s_setAttr_, s_nil_, s_cons_, bind_ok, toS_ok, seq_nx, seq_ret, seq_brk, seq_ct, loop_nx, loop_ct, loop_brk, loop_ret, toR_ret, toR_nx, bin_ints, intB_add, intB_sub, biS, toIntS, setAll, List.getElem?_cons_zero, List.getElem?_cons_succ, List.set_cons_zero, List.set_cons_succ, List.map_cons, List.map_nil, List.length_cons, List.length_nil, List.cons_append, List.nil_append, List.append_nil, List.replicate_succ, List.replicate_zero, Nat.reduceAdd, Nat.reduceSub, Nat.zero_add, Nat.reduceLeDiff, if_true, if_false, Bool.false_eq_true, decide_true, decide_false, Bool.not_true, Bool.not_false, x_eFld, x_eIs, s_raise_, s_raise0_, s_aug_, aug_add, aug_sub, s_tryA_, s_tryO_, catchA_nx, catchA_ret, catchA_brk, catchA_ct, catchO_nx, catchO_ret, catchO_brk, catchO_ct, gone_nx, gone_ret, gone_brk, gone_ct, noX_nx, noX_ret, noX_brk, noX_ct, bind_exc, toS_exc, seq_exc, loop_exc, toR_exc, eFldS, eIsS, gl0, gl1, gl2, gl3, gl4, gl5, gl6, xs0_0, xs0_1, xs0_2, xs0_3, xi1, xk1_0, ra1, xs1_0, xs1_1, xs1_2, xs1_3, xi2, xk2_0, xk2_1, ra2, xs2_0, xs2_1, xs2_2, xs2_3, mi3_19, mi3_20, mi3_21, mi3_22, mi3_23, mi3_24, mi3_25, mi3_26, mi3_27, mi3_28, mi3_29, mi3_30, mi3_31, mi3_32, mi3_33, mi3_34, mi3_35, mi3_36, mi3_37, mi3_38, mi3_39, mi3_40, mi3_41, fd3_0, fd3_1, ho3]
        · have i1 : ¬ (1 : Int) < ((z.length : Nat) : Int) := by omega
          have e : wZ z = some (NumText.digitsVal (TL.tl z)) := by
            unfold wZ
            rw [if_neg (by omega), if_neg (by rw [ha]; decide), if_neg (by omega)]
          rw [e]
          simp only [f5, b5, ll, c_eq, df i0, c_gt, df i6, forG_nil, ch, q, df i1, ti, l640, optD, x_var, x_int, x_bl, x_str, x_non, x_glo, x_bin, x_un, x_cmp, x_cmp2, asBl_bl, x_and, x_or, x_not, x_ite, x_tup, x_lst, x_lstC, x_call, x_callK, x_mk, x_mkC, x_mkK, x_meth, x_attr, x_ix, x_bi, x_sl, x_fz, x_nil, x_cons, x_onone, asI_int, x_osome, x_tval, x_tand, x_tor, x_tnot, x_iseq, walkR_tup, walkR_lst, walkR_klst, x_irange1, x_irange2, x_itxt, walkT_str, x_ienum, enR_eq, x_izip, forG_nil, x_comp, compG_nil, x_cnone, x_csome, x_bm, x_dnew, wipeD_cons, wipeD_nil, s_set_, s_par_, s_unp_, s_ret_, s_retN_, s_drop_, s_ife_, s_fr_, s_brk_, s_ct_, s_pass_, s_never_, s_setIx_, s_setAttr_, s_nil_, s_cons_, bind_ok, toS_ok, seq_nx, seq_ret, seq_brk, seq_ct, loop_nx, loop_ct, loop_brk, loop_ret, toR_ret, toR_nx, bin_ints, intB_add, intB_sub, biS, toIntS, setAll, List.getElem?_cons_zero, List.getElem?_cons_succ, List.set_cons_zero, List.set_cons_succ, List.map_cons, List.map_nil, List.length_cons, List.length_nil, List.cons_append, List.nil_append, List.append_nil, List.replicate_succ, List.replicate_zero, Nat.reduceAdd, Nat.reduceSub, Nat.zero_add, Nat.reduceLeDiff, if_true, if_false, Bool.false_eq_true, decide_true, decide_false, Bool.not_true, Bool.not_false, x_eFld, x_eIs, s_raise_, s_raise0_, s_aug_, aug_add, aug_sub, s_tryA_, s_tryO_, catchA_nx, catchA_ret, catchA_brk, catchA_ct, catchO_nx, catchO_ret, catchO_brk, catchO_ct, gone_nx, gone_ret, gone_brk, gone_ct, noX_nx, noX_ret, noX_brk, noX_ct, bind_exc, toS_exc, seq_exc, loop_exc, toR_exc, eFldS, eIsS, gl0, gl1, gl2, gl3, gl4, gl5, gl6, xs0_0, xs0_1, xs0_2, xs0_3, xi1, xk1_0, ra1, xs1_0, xs1_1, xs1_2, xs1_3, xi2, xk2_0, xk2_1, ra2, xs2_0, xs2_1, xs2_2, xs2_3, mi3_19, mi3_20, mi3_21, mi3_22, mi3_23, mi3_24, mi3_25, mi3_26, mi3_27, mi3_28, mi3_29, mi3_30, mi3_31, mi3_32, mi3_33, mi3_34, mi3_35, mi3_36, mi3_37, mi3_38, mi3_39, mi3_40, mi3_41, fd3_0, fd3_1, ho3]
def bad : D → Bool
  | .str s => (match TL.tl s with
    | [c] => !dg c
    | _ => true)
  | _ => true
theorem bad_len (cs : List Nat) : ((cs.map fun c => D.str ⟨#[c]⟩).filter bad).length = (cs.filter fun c => !dg c).length := by
  rw [List.filter_map, List.length_map]
  rfl
theorem lw_ok {n : Nat} {z : Str} {μ : Mu} (hz : z.length ≤ 1000000) : runS S (n + 1) 12 [.str z] μ = .ok (.int (optI (wZ z))) μ := by
  have ll := len_str (m := μ) hz
  rw [run_raw (fi := f12) rfl rfl rfl]
  by_cases z0 : z.length = 0
  · have e : wZ z = none := by
      unfold wZ
      rw [if_pos (.inl z0)]
    have i0 : ((z.length : Nat) : Int) = 0 := by omega
    rw [e]
    simp only [f12, b12, ll, c_eq, dt i0, un_neg_int, optI, x_var, x_int, x_bl, x_str, x_non, x_glo, x_bin, x_un, x_cmp, x_cmp2, asBl_bl, x_and, x_or, x_not, x_ite, x_tup, x_lst, x_lstC, x_call, x_callK, x_mk, x_mkC, x_mkK, x_meth, x_attr, x_ix, x_bi, x_sl, x_fz, x_nil, x_cons, x_onone, asI_int, x_osome, x_tval, x_tand, x_tor, x_tnot, x_iseq, walkR_tup, walkR_lst, walkR_klst, x_irange1, x_irange2, x_itxt, walkT_str, x_ienum, enR_eq, x_izip, forG_nil, x_comp, compG_nil, x_cnone, x_csome, x_bm, x_dnew, wipeD_cons, wipeD_nil, s_set_, s_par_, s_unp_, s_ret_, s_retN_, s_drop_, s_ife_, s_fr_, s_brk_, s_ct_, s_pass_, s_never_, s_setIx_, s_setAttr_, s_nil_, s_cons_, bind_ok, toS_ok, seq_nx, seq_ret, seq_brk, seq_ct, loop_nx, loop_ct, loop_brk, loop_ret, toR_ret, toR_nx, bin_ints, intB_add, intB_sub, biS, toIntS, setAll, List.getElem?_cons_zero, List.getElem?_cons_succ, List.set_cons_zero, List.set_cons_succ, List.map_cons, List.map_nil, List.length_cons, List.length_nil, List.cons_append, List.nil_append, List.append_nil, List.replicate_succ, List.replicate_zero, Nat.reduceAdd, Nat.reduceSub, Nat.zero_add, Nat.reduceLeDiff, if_true, if_false, Bool.false_eq_true, decide_true, decide_false, Bool.not_true, Bool.not_false, x_eFld, x_eIs, s_raise_, s_raise0_, s_aug_, aug_add, aug_sub, s_tryA_, s_tryO_, catchA_nx, catchA_ret, catchA_brk, catchA_ct, catchO_nx, catchO_ret, catchO_brk, catchO_ct, gone_nx, gone_ret, gone_brk, gone_ct, noX_nx, noX_ret, noX_brk, noX_ct, bind_exc, toS_exc, seq_exc, loop_exc, toR_exc, eFldS, eIsS, gl0, gl1, gl2, gl3, gl4, gl5, gl6, xs0_0, xs0_1, xs0_2, xs0_3, xi1, xk1_0, ra1, xs1_0, xs1_1, xs1_2, xs1_3, xi2, xk2_0, xk2_1, ra2, xs2_0, xs2_1, xs2_2, xs2_3, mi3_19, mi3_20, mi3_21, mi3_22, mi3_23, mi3_24, mi3_25, mi3_26, mi3_27, mi3_28, mi3_29, mi3_30, mi3_31, mi3_32, mi3_33, mi3_34, mi3_35, mi3_36, mi3_37, mi3_38, mi3_39, mi3_40, mi3_41, fd3_0, fd3_1, ho3]
  · have i0 : ¬ ((z.length : Nat) : Int) = 0 := by omega
    by_cases z6 : 60 < z.length
    · have e : wZ z = none := by
        unfold wZ
        rw [if_pos (.inr z6)]
      have i6 : (60 : Int) < ((z.length : Nat) : Int) := by omega
      rw [e]
      simp only [f12, b12, ll, c_eq, df i0, c_gt, dt i6, un_neg_int, optI, x_var, x_int, x_bl, x_str, x_non, x_glo, x_bin, x_un, x_cmp, x_cmp2, asBl_bl, x_and, x_or, x_not, x_ite, x_tup, x_lst, x_lstC, x_call, x_callK, x_mk, x_mkC, x_mkK, x_meth, x_attr, x_ix, x_bi, x_sl, x_fz, x_nil, x_cons, x_onone, asI_int, x_osome, x_tval, x_tand, x_tor, x_tnot, x_iseq, walkR_tup, walkR_lst, walkR_klst, x_irange1, x_irange2, x_itxt, walkT_str, x_ienum, enR_eq, x_izip, forG_nil, x_comp, compG_nil, x_cnone, x_csome, x_bm, x_dnew, wipeD_cons, wipeD_nil, s_set_, s_par_, s_unp_, s_ret_, s_retN_, s_drop_, s_ife_, s_fr_, s_brk_, s_ct_, s_pass_, s_never_, s_setIx_, s_setAttr_, s_nil_, s_cons_, bind_ok, toS_ok, seq_nx, seq_ret, seq_brk, seq_ct, loop_nx, loop_ct, loop_brk, loop_ret, toR_ret, toR_nx, bin_ints, intB_add, intB_sub, biS, toIntS, setAll, List.getElem?_cons_zero, List.getElem?_cons_succ, List.set_cons_zero, List.set_cons_succ, List.map_cons, List.map_nil, List.length_cons, List.length_nil, List.cons_append, List.nil_append, List.append_nil, List.replicate_succ, List.replicate_zero, Nat.reduceAdd, Nat.reduceSub, Nat.zero_add, Nat.reduceLeDiff, if_true, if_false, Bool.false_eq_true, decide_true, decide_false, Bool.not_true, Bool.not_false, x_eFld, x_eIs, s_raise_, s_raise0_, s_aug_, aug_add, aug_sub, s_tryA_, s_tryO_, catchA_nx, catchA_ret, catchA_brk, catchA_ct, catchO_nx, catchO_ret, catchO_brk, catchO_ct, gone_nx, gone_ret, gone_brk, gone_ct, noX_nx, noX_ret, noX_brk, noX_ct, bind_exc, toS_exc, seq_exc, loop_exc, toR_exc, eFldS, eIsS, gl0, gl1, gl2, gl3, gl4, gl5, gl6, xs0_0, xs0_1, xs0_2, xs0_3, xi1, xk1_0, ra1, xs1_0, xs1_1, xs1_2, xs1_3, xi2, xk2_0, xk2_1, ra2, xs2_0, xs2_1, xs2_2, xs2_3, mi3_19, mi3_20, mi3_21, mi3_22, mi3_23, mi3_24, mi3_25, mi3_26, mi3_27, mi3_28, mi3_29, mi3_30, mi3_31, mi3_32, mi3_33, mi3_34, mi3_35, mi3_36, mi3_37, mi3_38, mi3_39, mi3_40, mi3_41, fd3_0, fd3_1, ho3]
    · have i6 : ¬ (60 : Int) < ((z.length : Nat) : Int) := by omega
      have ch : chars z = (TL.tl z).map fun c => D.str ⟨#[c]⟩ := rfl
      have q := fz_comp (t := .one 1) (Ft := semC S (runS S n) (.some (.val (.cmp .NotIn (.var 1) (.str "0123456789"))))) (Fe := semE S (runS S n) (.var 1)) (δ := [some (.str z), none]) (μ := μ) (f := id) (g := bad) (ds := (TL.tl z).map fun c => D.str ⟨#[c]⟩) (gs := []) (fun _ => gOk_nil) (by rw [List.length_map, ← TL.len_tl]; exact hz)
        (fun v hv => by
          obtain ⟨c, _, rfl⟩ := List.mem_map.mp hv
          refine ⟨_, rfl, fun a => ⟨?_, fun _ => by simp only [x_var, x_int, x_bl, x_str, x_non, x_glo, x_bin, x_un, x_cmp, x_cmp2, asBl_bl, x_and, x_or, x_not, x_ite, x_tup, x_lst, x_lstC, x_call, x_callK, x_mk, x_mkC, x_mkK, x_meth, x_attr, x_ix, x_bi, x_sl, x_fz, x_nil, x_cons, x_onone, asI_int, x_osome, x_tval, x_tand, x_tor, x_tnot, x_iseq, walkR_tup, walkR_lst, walkR_klst, x_irange1, x_irange2, x_itxt, walkT_str, x_ienum, enR_eq, x_izip, forG_nil, x_comp, compG_nil, x_cnone, x_csome, x_bm, x_dnew, wipeD_cons, wipeD_nil, s_set_, s_par_, s_unp_, s_ret_, s_retN_, s_drop_, s_ife_, s_fr_, s_brk_, s_ct_, s_pass_, s_never_, s_setIx_, s_setAttr_, s_nil_, s_cons_, bind_ok, toS_ok, seq_nx, seq_ret, seq_brk, seq_ct, loop_nx, loop_ct, loop_brk, loop_ret, toR_ret, toR_nx, bin_ints, intB_add, intB_sub, biS, toIntS, setAll, List.getElem?_cons_zero, List.getElem?_cons_succ, List.set_cons_zero, List.set_cons_succ, List.map_cons, List.map_nil, List.length_cons, List.length_nil, List.cons_append, List.nil_append, List.append_nil, List.replicate_succ, List.replicate_zero, Nat.reduceAdd, Nat.reduceSub, Nat.zero_add, Nat.reduceLeDiff, if_true, if_false, Bool.false_eq_true, decide_true, decide_false, Bool.not_true, Bool.not_false, x_eFld, x_eIs, s_raise_, s_raise0_, s_aug_, aug_add, aug_sub, s_tryA_, s_tryO_, catchA_nx, catchA_ret, catchA_brk, catchA_ct, catchO_nx, catchO_ret, catchO_brk, catchO_ct, gone_nx, gone_ret, gone_brk, gone_ct, noX_nx, noX_ret, noX_brk, noX_ct, bind_exc, toS_exc, seq_exc, loop_exc, toR_exc, eFldS, eIsS, gl0, gl1, gl2, gl3, gl4, gl5, gl6, xs0_0, xs0_1, xs0_2, xs0_3, xi1, xk1_0, ra1, xs1_0, xs1_1, xs1_2, xs1_3, xi2, xk2_0, xk2_1, ra2, xs2_0, xs2_1, xs2_2, xs2_3, mi3_19, mi3_20, mi3_21, mi3_22, mi3_23, mi3_24, mi3_25, mi3_26, mi3_27, mi3_28, mi3_29, mi3_30, mi3_31, mi3_32, mi3_33, mi3_34, mi3_35, mi3_36, mi3_37, mi3_38, mi3_39, mi3_40, mi3_41, fd3_0, fd3_1, ho3]; rfl⟩⟩
          have ni := notin_dig (run := runS S n) (c := c) (m := μ ++ [.lst a])
          simp only [ni, x_var, x_int, x_bl, x_str, x_non, x_glo, x_bin, x_un, x_cmp, x_cmp2, asBl_bl, x_and, x_or, x_not, x_ite, x_tup, x_lst, x_lstC, x_call, x_callK, x_mk, x_mkC, x_mkK, x_meth, x_attr, x_ix, x_bi, x_sl, x_fz, x_nil, x_cons, x_onone, asI_int, x_osome, x_tval, x_tand, x_tor, x_tnot, x_iseq, walkR_tup, walkR_lst, walkR_klst, x_irange1, x_irange2, x_itxt, walkT_str, x_ienum, enR_eq, x_izip, forG_nil, x_comp, compG_nil, x_cnone, x_csome, x_bm, x_dnew, wipeD_cons, wipeD_nil, s_set_, s_par_, s_unp_, s_ret_, s_retN_, s_drop_, s_ife_, s_fr_, s_brk_, s_ct_, s_pass_, s_never_, s_setIx_, s_setAttr_, s_nil_, s_cons_, bind_ok, toS_ok, seq_nx, seq_ret, seq_brk, seq_ct, loop_nx, loop_ct, loop_brk, loop_ret, toR_ret, toR_nx, bin_ints, intB_add, intB_sub, biS, toIntS, setAll, List.getElem?_cons_zero, List.getElem?_cons_succ, List.set_cons_zero, List.set_cons_succ, List.map_cons, List.map_nil, List.length_cons, List.length_nil, List.cons_append, List.nil_append, List.append_nil, List.replicate_succ, List.replicate_zero, Nat.reduceAdd, Nat.reduceSub, Nat.zero_add, Nat.reduceLeDiff, if_true, if_false, Bool.false_eq_true, decide_true, decide_false, Bool.not_true, Bool.not_false, x_eFld, x_eIs, s_raise_, s_raise0_, s_aug_, aug_add, aug_sub, s_tryA_, s_tryO_, catchA_nx, catchA_ret, catchA_brk, catchA_ct, catchO_nx, catchO_ret, catchO_brk, catchO_ct, gone_nx, gone_ret, gone_brk, gone_ct, noX_nx, noX_ret, noX_brk, noX_ct, bind_exc, toS_exc, seq_exc, loop_exc, toR_exc, eFldS, eIsS, gl0, gl1, gl2, gl3, gl4, gl5, gl6, xs0_0, xs0_1, xs0_2, xs0_3, xi1, xk1_0, ra1, xs1_0, xs1_1, xs1_2, xs1_3, xi2, xk2_0, xk2_1, ra2, xs2_0, xs2_1, xs2_2, xs2_3, mi3_19, mi3_20, mi3_21, mi3_22, mi3_23, mi3_24, mi3_25, mi3_26, mi3_27, mi3_28, mi3_29, mi3_30, mi3_31, mi3_32, mi3_33, mi3_34, mi3_35, mi3_36, mi3_37, mi3_38, mi3_39, mi3_40, mi3_41, fd3_0, fd3_1, ho3]
          rfl)
        (fun v hv => by
          obtain ⟨c, _, rfl⟩ := List.mem_map.mp hv
          rfl)
      simp only [List.map_id, compG_nil] at q
      have wp : wipeD [some (.str z), none] [1] = [some (.str z), none] := rfl
      have ln : ∀ (ds : List D) m, lenS (.lst ds) m = .ok (.int (ds.length : Nat)) m := fun _ _ => rfl
      cases ha : (TL.tl z).all dg with
      | false =>
        have e : wZ z = none := by
          unfold wZ
          rw [if_neg (by omega), if_pos ha]
        have i1 : (0 : Int) < ((((TL.tl z).map fun c => D.str ⟨#[c]⟩).filter bad).length : Nat) := by
          rw [bad_len]
          obtain ⟨c, h1, h2⟩ := List.all_eq_false.mp ha
          have := List.length_pos_of_mem (List.mem_filter.mpr ⟨h1, by simpa using h2⟩ : c ∈ (TL.tl z).filter fun c => !dg c)
          omega
        rw [e]
        simp only [f12, b12, ll, c_eq, df i0, c_gt, df i6, x_fz, wp, ch, q, ln, dt i1, un_neg_int, optI, x_var, x_int, x_bl, x_str, x_non, x_glo, x_bin, x_un, x_cmp, x_cmp2, asBl_bl, x_and, x_or, x_not, x_ite, x_tup, x_lst, x_lstC, x_call, x_callK, x_mk, x_mkC, x_mkK, x_meth, x_attr, x_ix, x_bi, x_sl, x_fz, x_nil, x_cons, x_onone, asI_int, x_osome, x_tval, x_tand, x_tor, x_tnot, x_iseq, walkR_tup, walkR_lst, walkR_klst, x_irange1, x_irange2, x_itxt, walkT_str, x_ienum, enR_eq, x_izip, forG_nil, x_comp, compG_nil, x_cnone, x_csome, x_bm, x_dnew, wipeD_cons, wipeD_nil, s_set_, s_par_, s_unp_, s_ret_, s_retN_, s_drop_, s_ife_, s_fr_, s_brk_, s_ct_, s_pass_, s_never_, s_setIx_, s_setAttr_, s_nil_, s_cons_, bind_ok, toS_ok, seq_nx, seq_ret, seq_brk, seq_ct, loop_nx, loop_ct, loop_brk, loop_ret, toR_ret, toR_nx, bin_ints, intB_add, intB_sub, biS, toIntS, setAll, List.getElem?_cons_zero, List.getElem?_cons_succ, List.set_cons_zero, List.set_cons_succ, List.map_cons, List.map_nil, List.length_cons, List.length_nil, List.cons_append, List.nil_append, List.append_nil, List.replicate_succ, List.replicate_zero, Nat.reduceAdd, Nat.reduceSub, Nat.zero_add, Nat.reduceLeDiff, if_true, if_false, Bool.false_eq_true, decide_true, decide_false, Bool.not_true, Bool.not_false, x_eFld, x_eIs, s_raise_, s_raise0_, s_aug_, aug_add, aug_sub, s_tryA_, s_tryO_, catchA_nx, catchA_ret, catchA_brk, catchA_ct, catchO_nx, catchO_ret, catchO_brk, catchO_ct, gone_nx, gone_ret, gone_brk, gone_ct, noX_nx, noX_ret, noX_brk, noX_ct, bind_exc, toS_exc, seq_exc, loop_exc, toR_exc, eFldS, eIsS, gl0, gl1, gl2, gl3, gl4, gl5, gl6, xs0_0, xs0_1, xs0_2, xs0_3, xi1, xk1_0, ra1, xs1_0, xs1_1, xs1_2, xs1_3, xi2, xk2_0, xk2_1, ra2, xs2_0, xs2_1, xs2_2, xs2_3, mi3_19, mi3_20, mi3_21, mi3_22, mi3_23, mi3_24, mi3_25, mi3_26, mi3_27, mi3_28, mi3_29, mi3_30, mi3_31, mi3_32, mi3_33, mi3_34, mi3_35, mi3_36, mi3_37, mi3_38, mi3_39, mi3_40, mi3_41, fd3_0, fd3_1, ho3]
      | true =>
        have i2 : ¬ (0 : Int) < ((((TL.tl z).map fun c => D.str ⟨#[c]⟩).filter bad).length : Nat) := by
          rw [bad_len, List.filter_eq_nil_iff.mpr fun c hc => by rw [List.all_eq_true.mp ha c hc]; decide]
          decide
        have ti := dig_int ha z0 (by omega)
        have tb := int_str (m := μ) ti (by omega)
        have l640 : z.length ≤ 640 := by omega
        cases hc : TL.tl z with
        | nil =>
          rw [TL.len_tl, hc] at z0
          exact absurd rfl z0
        | cons c r =>
          have ix := ix_str0 (m := μ) hc hz
          by_cases h4 : c = 48
          · by_cases h1 : 1 < z.length
            · have i1 : (1 : Int) < ((z.length : Nat) : Int) := by omega
              have e : wZ z = none := by
                unfold wZ
                rw [if_neg (by omega), if_neg (by rw [ha]; decide), if_pos ⟨h1, by rw [hc, h4]; rfl⟩]
              rw [e]
              simp only [f12, b12, ll, c_eq, df i0, c_gt, df i6, x_fz, wp, ch, q, ln, df i2, ix, c_str, zero_str, dt h4, dt i1, un_neg_int, optI, x_var, x_int, x_bl, x_str, x_non, x_glo, x_bin, x_un, x_cmp, x_cmp2, asBl_bl, x_and, x_or, x_not, x_ite, x_tup, x_lst, x_lstC, x_call, x_callK, x_mk, x_mkC, x_mkK, x_meth, x_attr, x_ix, x_bi, x_sl, x_fz, x_nil, x_cons, x_onone, asI_int, x_osome, x_tval, x_tand, x_tor, x_tnot, x_iseq, walkR_tup, walkR_lst, walkR_klst, x_irange1, x_irange2, x_itxt, walkT_str, x_ienum, enR_eq, x_izip, forG_nil, x_comp, compG_nil, x_cnone, x_csome, x_bm, x_dnew, wipeD_cons, wipeD_nil, s_set_, s_par_, s_unp_, s_ret_, s_retN_, s_drop_, s_ife_, s_fr_, s_brk_, s_ct_, s_pass_, s_never_, s_setIx_, s_setAttr_, s_nil_, s_cons_, bind_ok, toS_ok, seq_nx, seq_ret, seq_brk, seq_ct, loop_nx, loop_ct, loop_brk, loop_ret, toR_ret, toR_nx, bin_ints, intB_add, intB_sub, biS, toIntS, setAll, List.getElem?_cons_zero, List.getElem?_cons_succ, List.set_cons_zero, List.set_cons_succ, List.map_cons, List.map_nil, List.length_cons, List.length_nil, List.cons_append, List.nil_append, List.append_nil, List.replicate_succ, List.replicate_zero, Nat.reduceAdd, Nat.reduceSub, Nat.zero_add, Nat.reduceLeDiff, if_true, if_false, Bool.false_eq_true, decide_true, decide_false, Bool.not_true, Bool.not_false, x_eFld, x_eIs, s_raise_, s_raise0_, s_aug_, aug_add, aug_sub, s_tryA_, s_tryO_, catchA_nx, catchA_ret, catchA_brk, catchA_ct, catchO_nx, catchO_ret, catchO_brk, catchO_ct, gone_nx, gone_ret, gone_brk, gone_ct, noX_nx, noX_ret, noX_brk, noX_ct, bind_exc, toS_exc, seq_exc, loop_exc, toR_exc, eFldS, eIsS, gl0, gl1, gl2, gl3, gl4, gl5, gl6, xs0_0, xs0_1, xs0_2, xs0_3, xi1, xk1_0, ra1, xs1_0, xs1_1, xs1_2, xs1_3, xi2, xk2_0, xk2_1, ra2, xs2_0, xs2_1, xs2_2, xs2_3, mi3_19, mi3_20, mi3_21, mi3_22, mi3_23, mi3_24, mi3_25, mi3_26, mi3_27, mi3_28, mi3_29, mi3_30, mi3_31, mi3_32, mi3_33, mi3_34, mi3_35, mi3_36, mi3_37, mi3_38, mi3_39, mi3_40, mi3_41, fd3_0, fd3_1, ho3]
            · have i1 : ¬ (1 : Int) < ((z.length : Nat) : Int) := by omega
              have e : wZ z = some (NumText.digitsVal (TL.tl z)) := by
                unfold wZ
                rw [if_neg (by omega), if_neg (by rw [ha]; decide), if_neg (by omega)]
              rw [e]
              simp only [f12, b12, ll, c_eq, df i0, c_gt, df i6, x_fz, wp, ch, q, ln, df i2, ix, c_str, zero_str, dt h4, df i1, ti, l640, optI, x_var, x_int, x_bl, x_str, x_non, x_glo, x_bin, x_un, x_cmp, x_cmp2, asBl_bl, x_and, x_or, x_not, x_ite, x_tup, x_lst, x_lstC, x_call, x_callK, x_mk, x_mkC, x_mkK, x_meth, x_attr, x_ix, x_bi, x_sl, x_fz, x_nil, x_cons, x_onone, asI_int, x_osome, x_tval, x_tand, x_tor, x_tnot, x_iseq, walkR_tup, walkR_lst, walkR_klst, x_irange1, x_irange2, x_itxt, walkT_str, x_ienum, enR_eq, x_izip, forG_nil, x_comp, compG_nil, x_cnone, x_csome, x_bm, x_dnew, wipeD_cons, wipeD_nil, s_set_, s_par_, s_unp_, s_ret_, s_retN_, s_drop_, s_ife_, s_fr_, s_brk_, s_ct_, s_pass_, s_never_, s_setIx_, s_setAttr_, s_nil_, s_cons_, bind_ok, toS_ok, seq_nx, seq_ret, seq_brk, seq_ct, loop_nx, loop_ct, loop_brk, loop_ret, toR_ret, toR_nx, bin_ints, intB_add, intB_sub, biS, toIntS, setAll, List.getElem?_cons_zero, List.getElem?_cons_succ, List.set_cons_zero, List.set_cons_succ, List.map_cons, List.map_nil, List.length_cons, List.length_nil, List.cons_append, List.nil_append, List.append_nil, List.replicate_succ, List.replicate_zero, Nat.reduceAdd, Nat.reduceSub, Nat.zero_add, Nat.reduceLeDiff, if_true, if_false, Bool.false_eq_true, decide_true, decide_false, Bool.not_true, Bool.not_false, x_eFld, x_eIs, s_raise_, s_raise0_, s_aug_, aug_add, aug_sub, s_tryA_, s_tryO_, catchA_nx, catchA_ret, catchA_brk, catchA_ct, catchO_nx, catchO_ret, catchO_brk, catchO_ct, gone_nx, gone_ret, gone_brk, gone_ct, noX_nx, noX_ret, noX_brk, noX_ct, bind_exc, toS_exc, seq_exc, loop_exc, toR_exc, eFldS, eIsS, gl0, gl1, gl2, gl3, gl4, gl5, gl6, xs0_0, xs0_1, xs0_2, xs0_3, xi1, xk1_0, ra1, xs1_0, xs1_1, xs1_2, xs1_3, xi2, xk2_0, xk2_1, ra2, xs2_0, xs2_1, xs2_2, xs2_3, mi3_19, mi3_20, mi3_21, mi3_22, mi3_23, mi3_24, mi3_25, mi3_26, mi3_27, mi3_28, mi3_29, mi3_30, mi3_31, mi3_32, mi3_33, mi3_34, mi3_35, mi3_36, mi3_37, mi3_38, mi3_39, mi3_40, mi3_41, fd3_0, fd3_1, ho3]
          · have e : wZ z = some (NumText.digitsVal (TL.tl z)) := by
              unfold wZ
              rw [if_neg (by omega), if_neg (by rw [ha]; decide), if_neg (by rw [hc]; simp [h4])]
            rw [e]
            simp only [f12, b12, ll, c_eq, df i0, c_gt, df i6, x_fz, wp, ch, q, ln, df i2, ix, c_str, zero_str, df h4, ti, l640, optI, x_var, x_int, x_bl, x_str, x_non, x_glo, x_bin, x_un, x_cmp, x_cmp2, asBl_bl, x_and, x_or, x_not, x_ite, x_tup, x_lst, x_lstC, x_call, x_callK, x_mk, x_mkC, x_mkK, x_meth, x_attr, x_ix, x_bi, x_sl, x_fz, x_nil, x_cons, x_onone, asI_int, x_osome, x_tval, x_tand, x_tor, x_tnot, x_iseq, walkR_tup, walkR_lst, walkR_klst, x_irange1, x_irange2, x_itxt, walkT_str, x_ienum, enR_eq, x_izip, forG_nil, x_comp, compG_nil, x_cnone, x_csome, x_bm, x_dnew, wipeD_cons, wipeD_nil, s_set_, s_par_, s_unp_, s_ret_, s_retN_, s_drop_, s_ife_, s_fr_, s_brk_, s_ct_, s_pass_, s_never_, s_setIx_, s_setAttr_, s_nil_, s_cons_, bind_ok, toS_ok, seq_nx, seq_ret, seq_brk, seq_ct, loop_nx, loop_ct, loop_brk, loop_ret, toR_ret, toR_nx, bin_ints, intB_add, intB_sub, biS, toIntS, setAll, List.getElem?_cons_zero, List.getElem?_cons_succ, List.set_cons_zero, List.set_cons_succ, List.map_cons, List.map_nil, List.length_cons, List.length_nil, List.cons_append, List.nil_append, List.append_nil, List.replicate_succ, List.replicate_zero, Nat.reduceAdd, Nat.reduceSub, Nat.zero_add, Nat.reduceLeDiff, if_true, if_false, Bool.false_eq_true, decide_true, decide_false, Bool.not_true, Bool.not_false, x_eFld, x_eIs, s_raise_, s_raise0_, s_aug_, aug_add, aug_sub, s_tryA_, s_tryO_, catchA_nx, catchA_ret, catchA_brk, catchA_ct, catchO_nx, catchO_ret, catchO_brk, catchO_ct, gone_nx, gone_ret, gone_brk, gone_ct, noX_nx, noX_ret, noX_brk, noX_ct, bind_exc, toS_exc, seq_exc, loop_exc, toR_exc, eFldS, eIsS, gl0, gl1, gl2, gl3, gl4, gl5, gl6, xs0_0, xs0_1, xs0_2, xs0_3, xi1, xk1_0, ra1, xs1_0, xs1_1, xs1_2, xs1_3, xi2, xk2_0, xk2_1, ra2, xs2_0, xs2_1, xs2_2, xs2_3, mi3_19, mi3_20, mi3_21, mi3_22, mi3_23, mi3_24, mi3_25, mi3_26, mi3_27, mi3_28, mi3_29, mi3_30, mi3_31, mi3_32, mi3_33, mi3_34, mi3_35, mi3_36, mi3_37, mi3_38, mi3_39, mi3_40, mi3_41, fd3_0, fd3_1, ho3]
end K04
namespace K04
open PySem PySem.Spec PyProof.Rows L2 L3
/-! ### the law's divisor -/
abbrev shB : JB := match b9 with
  | .cons (.fr _ _ b) _ => b
  | _ => .nil
theorem sh_loop {n : Nat} {μ : Mu} : ∀ (ds : List D) (j a b : Nat) (x2 x3 : Option D), b ≤ a → a * b < 2 ^ j → j ≤ ds.length → a < 10 ^ 60 → ∃ y1 y2 y3, forL (.one 2) (semB S (runS S n) shB) ds [some (.int a), some (.int b), x2, x3] μ = .nx [some (.int (Nat.gcd a b : Nat)), y1, y2, y3] μ
  | [], j, a, b, x2, x3, h1, h2, h3, _ => by
    have j0 : j = 0 := by simpa using h3
    subst j0
    have h2 : a * b < 1 := h2
    have b0 : b = 0 := by
      rcases Nat.eq_zero_or_pos b with h | h
      · exact h
      · have : 1 * 1 ≤ a * b := Nat.mul_le_mul (by omega) h
        omega
    subst b0
    exact ⟨_, _, _, by rw [Nat.gcd_zero_right]; rfl⟩
  | d :: ds, j, a, b, x2, x3, h1, h2, h3, h4 => by
    rw [forL_put (δ' := [some (.int a), some (.int b), some d, x3]) rfl]
    by_cases hb : b = 0
    · subst hb
      have z : ((0 : Nat) : Int) = 0 := rfl
      refine ⟨some (.int (0 : Nat)), some d, x3, ?_⟩
      rw [Nat.gcd_zero_right]
      simp only [shB, b9, c_eq, dt z, x_var, x_int, x_bl, x_str, x_non, x_glo, x_bin, x_un, x_cmp, x_cmp2, asBl_bl, x_and, x_or, x_not, x_ite, x_tup, x_lst, x_lstC, x_call, x_callK, x_mk, x_mkC, x_mkK, x_meth, x_attr, x_ix, x_bi, x_sl, x_fz, x_nil, x_cons, x_onone, asI_int, x_osome, x_tval, x_tand, x_tor, x_tnot, x_iseq, walkR_tup, walkR_lst, walkR_klst, x_irange1, x_irange2, x_itxt, walkT_str, x_ienum, enR_eq, x_izip, forG_nil, x_comp, compG_nil, x_cnone, x_csome, x_bm, x_dnew, wipeD_cons, wipeD_nil, s_set_, s_par_, s_unp_, s_ret_, s_retN_, s_drop_, s_ife_, s_fr_, s_brk_, s_ct_, s_pass_, s_never_, s_setIx_, s_setAttr_, s_nil_, s_cons_, bind_ok, toS_ok, seq_nx, seq_ret, seq_brk, seq_ct, loop_nx, loop_ct, loop_brk, loop_ret, toR_ret, toR_nx, bin_ints, intB_add, intB_sub, biS, toIntS, setAll, List.getElem?_cons_zero, List.getElem?_cons_succ, List.set_cons_zero, List.set_cons_succ, List.map_cons, List.map_nil, List.length_cons, List.length_nil, List.cons_append, List.nil_append, List.append_nil, List.replicate_succ, List.replicate_zero, Nat.reduceAdd, Nat.reduceSub, Nat.zero_add, Nat.reduceLeDiff, if_true, if_false, Bool.false_eq_true, decide_true, decide_false, Bool.not_true, Bool.not_false, x_eFld, x_eIs, s_raise_, s_raise0_, s_aug_, aug_add, aug_sub, s_tryA_, s_tryO_, catchA_nx, catchA_ret, catchA_brk, catchA_ct, catchO_nx, catchO_ret, catchO_brk, catchO_ct, gone_nx, gone_ret, gone_brk, gone_ct, noX_nx, noX_ret, noX_brk, noX_ct, bind_exc, toS_exc, seq_exc, loop_exc, toR_exc, eFldS, eIsS, gl0, gl1, gl2, gl3, gl4, gl5, gl6, xs0_0, xs0_1, xs0_2, xs0_3, xi1, xk1_0, ra1, xs1_0, xs1_1, xs1_2, xs1_3, xi2, xk2_0, xk2_1, ra2, xs2_0, xs2_1, xs2_2, xs2_3, mi3_19, mi3_20, mi3_21, mi3_22, mi3_23, mi3_24, mi3_25, mi3_26, mi3_27, mi3_28, mi3_29, mi3_30, mi3_31, mi3_32, mi3_33, mi3_34, mi3_35, mi3_36, mi3_37, mi3_38, mi3_39, mi3_40, mi3_41, fd3_0, fd3_1, ho3]
    · have z : ¬ ((b : Nat) : Int) = 0 := by omega
      have md : ∀ m, intB .Mod ((a : Nat) : Int) ((b : Nat) : Int) m = .ok (.int ((a % b : Nat) : Int)) m := fun m => by
        simp only [intB]
        rw [if_pos (decide_eq_true z), Int.natCast_emod, Int.fmod_eq_emod_of_nonneg _ (by omega)]
      have e : semB S (runS S n) shB [some (.int a), some (.int b), some d, x3] μ = .nx [some (.int (b : Nat)), some (.int ((a % b : Nat) : Int)), some d, some (.int ((a % b : Nat) : Int))] μ := by
        simp only [shB, b9, c_eq, df z, md, x_var, x_int, x_bl, x_str, x_non, x_glo, x_bin, x_un, x_cmp, x_cmp2, asBl_bl, x_and, x_or, x_not, x_ite, x_tup, x_lst, x_lstC, x_call, x_callK, x_mk, x_mkC, x_mkK, x_meth, x_attr, x_ix, x_bi, x_sl, x_fz, x_nil, x_cons, x_onone, asI_int, x_osome, x_tval, x_tand, x_tor, x_tnot, x_iseq, walkR_tup, walkR_lst, walkR_klst, x_irange1, x_irange2, x_itxt, walkT_str, x_ienum, enR_eq, x_izip, forG_nil, x_comp, compG_nil, x_cnone, x_csome, x_bm, x_dnew, wipeD_cons, wipeD_nil, s_set_, s_par_, s_unp_, s_ret_, s_retN_, s_drop_, s_ife_, s_fr_, s_brk_, s_ct_, s_pass_, s_never_, s_setIx_, s_setAttr_, s_nil_, s_cons_, bind_ok, toS_ok, seq_nx, seq_ret, seq_brk, seq_ct, loop_nx, loop_ct, loop_brk, loop_ret, toR_ret, toR_nx, bin_ints, intB_add, intB_sub, biS, toIntS, setAll, List.getElem?_cons_zero, List.getElem?_cons_succ, List.set_cons_zero, List.set_cons_succ, List.map_cons, List.map_nil, List.length_cons, List.length_nil, List.cons_append, List.nil_append, List.append_nil, List.replicate_succ, List.replicate_zero, Nat.reduceAdd, Nat.reduceSub, Nat.zero_add, Nat.reduceLeDiff, if_true, if_false, Bool.false_eq_true, decide_true, decide_false, Bool.not_true, Bool.not_false, x_eFld, x_eIs, s_raise_, s_raise0_, s_aug_, aug_add, aug_sub, s_tryA_, s_tryO_, catchA_nx, catchA_ret, catchA_brk, catchA_ct, catchO_nx, catchO_ret, catchO_brk, catchO_ct, gone_nx, gone_ret, gone_brk, gone_ct, noX_nx, noX_ret, noX_brk, noX_ct, bind_exc, toS_exc, seq_exc, loop_exc, toR_exc, eFldS, eIsS, gl0, gl1, gl2, gl3, gl4, gl5, gl6, xs0_0, xs0_1, xs0_2, xs0_3, xi1, xk1_0, ra1, xs1_0, xs1_1, xs1_2, xs1_3, xi2, xk2_0, xk2_1, ra2, xs2_0, xs2_1, xs2_2, xs2_3, mi3_19, mi3_20, mi3_21, mi3_22, mi3_23, mi3_24, mi3_25, mi3_26, mi3_27, mi3_28, mi3_29, mi3_30, mi3_31, mi3_32, mi3_33, mi3_34, mi3_35, mi3_36, mi3_37, mi3_38, mi3_39, mi3_40, mi3_41, fd3_0, fd3_1, ho3]
      have lt : a % b < b := Nat.mod_lt _ (by omega)
      have le : b + a % b ≤ a := by
        have q := Nat.div_add_mod a b
        have p : 1 ≤ a / b := Nat.div_pos h1 (by omega)
        have : b * 1 ≤ b * (a / b) := Nat.mul_le_mul_left _ p
        omega
      have k1 : b * (a % b) * 2 ≤ a * b := by
        have : b * (a % b * 2) ≤ b * a := Nat.mul_le_mul_left _ (by omega)
        rw [Nat.mul_assoc, Nat.mul_comm a b]
        exact this
      have pos : 0 < a * b := Nat.mul_pos (by omega) (by omega)
      cases j with
      | zero =>
        have h2 : a * b < 1 := h2
        omega
      | succ j =>
        obtain ⟨y1, y2, y3, q⟩ := sh_loop (n := n) (μ := μ) ds j b (a % b) (some d) (some (.int ((a % b : Nat) : Int))) (by omega) (by rw [Nat.pow_succ] at h2; omega) (by simp only [List.length_cons] at h3; omega) (by omega)
        refine ⟨y1, y2, y3, ?_⟩
        have g : Nat.gcd b (a % b) = Nat.gcd a b := by
          rw [Nat.gcd_comm b (a % b), ← Nat.gcd_rec, Nat.gcd_comm]
        rw [e, loop_nx, q, g]
theorem pw399 : (10 : Nat) ^ 60 * 10 ^ 60 < 2 ^ 400 := by decide +kernel
theorem sh_ok {n a b : Nat} {μ : Mu} (ha : a < 10 ^ 60) (hb : b < 10 ^ 60) : runS S (n + 1) 9 [.int a, .int b] μ = .ok (.int (Nat.gcd a b : Nat)) μ := by
  have rg : ∀ m, rng1 (.int 1200) m = .ok (irange 0 1200, []) m := fun m => by
    rw [rng1_ok (by decide)]
    rfl
  have mul : ∀ x y : Nat, x < 10 ^ 60 → y < 10 ^ 60 → x * y < 2 ^ 400 := fun x y hx hy => Nat.lt_of_le_of_lt (Nat.mul_le_mul (Nat.le_of_lt hx) (Nat.le_of_lt hy)) pw399
  have w : ∃ y1 y2 y3, forL (.one 2) (semB S (runS S n) shB) (irange 0 1200) [some (.int a), some (.int b), none, none] μ = .nx [some (.int (Nat.gcd a b : Nat)), y1, y2, y3] μ := by
    by_cases h : b ≤ a
    · exact sh_loop (irange 0 1200) 400 a b none none h (mul a b ha hb) (by rw [irange_len]; decide) ha
    · have z : ¬ ((b : Nat) : Int) = 0 := by omega
      have md : ∀ m, intB .Mod ((a : Nat) : Int) ((b : Nat) : Int) m = .ok (.int (a : Nat)) m := fun m => by
        simp only [intB]
        rw [if_pos (decide_eq_true z), Int.fmod_eq_emod_of_nonneg _ (by omega), Int.emod_eq_of_lt (by omega) (by omega)]
      obtain ⟨d, r, e, l⟩ : ∃ d r, irange 0 1200 = d :: r ∧ r.length = 1199 := by
        have q : (irange 0 1200).length = 1200 := irange_len
        cases h : irange 0 1200 with
        | nil => rw [h] at q; cases q
        | cons d r => rw [h] at q; exact ⟨d, r, rfl, by simpa using q⟩
      have e1 : semB S (runS S n) shB [some (.int a), some (.int b), some d, none] μ = .nx [some (.int (b : Nat)), some (.int (a : Nat)), some d, some (.int (a : Nat))] μ := by
        simp only [shB, b9, c_eq, df z, md, x_var, x_int, x_bl, x_str, x_non, x_glo, x_bin, x_un, x_cmp, x_cmp2, asBl_bl, x_and, x_or, x_not, x_ite, x_tup, x_lst, x_lstC, x_call, x_callK, x_mk, x_mkC, x_mkK, x_meth, x_attr, x_ix, x_bi, x_sl, x_fz, x_nil, x_cons, x_onone, asI_int, x_osome, x_tval, x_tand, x_tor, x_tnot, x_iseq, walkR_tup, walkR_lst, walkR_klst, x_irange1, x_irange2, x_itxt, walkT_str, x_ienum, enR_eq, x_izip, forG_nil, x_comp, compG_nil, x_cnone, x_csome, x_bm, x_dnew, wipeD_cons, wipeD_nil, s_set_, s_par_, s_unp_, s_ret_, s_retN_, s_drop_, s_ife_, s_fr_, s_brk_, s_ct_, s_pass_, s_never_, s_setIx_, s_setAttr_, s_nil_, s_cons_, bind_ok, toS_ok, seq_nx, seq_ret, seq_brk, seq_ct, loop_nx, loop_ct, loop_brk, loop_ret, toR_ret, toR_nx, bin_ints, intB_add, intB_sub, biS, toIntS, setAll, List.getElem?_cons_zero, List.getElem?_cons_succ, List.set_cons_zero, List.set_cons_succ, List.map_cons, List.map_nil, List.length_cons, List.length_nil, List.cons_append, List.nil_append, List.append_nil, List.replicate_succ, List.replicate_zero, Nat.reduceAdd, Nat.reduceSub, Nat.zero_add, Nat.reduceLeDiff, if_true, if_false, Bool.false_eq_true, decide_true, decide_false, Bool.not_true, Bool.not_false, x_eFld, x_eIs, s_raise_, s_raise0_, s_aug_, aug_add, aug_sub, s_tryA_, s_tryO_, catchA_nx, catchA_ret, catchA_brk, catchA_ct, catchO_nx, catchO_ret, catchO_brk, catchO_ct, gone_nx, gone_ret, gone_brk, gone_ct, noX_nx, noX_ret, noX_brk, noX_ct, bind_exc, toS_exc, seq_exc, loop_exc, toR_exc, eFldS, eIsS, gl0, gl1, gl2, gl3, gl4, gl5, gl6, xs0_0, xs0_1, xs0_2, xs0_3, xi1, xk1_0, ra1, xs1_0, xs1_1, xs1_2, xs1_3, xi2, xk2_0, xk2_1, ra2, xs2_0, xs2_1, xs2_2, xs2_3, mi3_19, mi3_20, mi3_21, mi3_22, mi3_23, mi3_24, mi3_25, mi3_26, mi3_27, mi3_28, mi3_29, mi3_30, mi3_31, mi3_32, mi3_33, mi3_34, mi3_35, mi3_36, mi3_37, mi3_38, mi3_39, mi3_40, mi3_41, fd3_0, fd3_1, ho3]
      obtain ⟨y1, y2, y3, q⟩ := sh_loop (n := n) (μ := μ) r 400 b a (some d) (some (.int (a : Nat))) (by omega) (mul b a hb ha) (by omega) hb
      refine ⟨y1, y2, y3, ?_⟩
      rw [e, forL_put (δ' := [some (.int a), some (.int b), some d, none]) rfl, e1, loop_nx, q, Nat.gcd_comm]
  obtain ⟨y1, y2, y3, w⟩ := w
  simp only [shB, b9] at w
  rw [run_raw (fi := f9) rfl rfl rfl]
  simp only [f9, b9, rg, forG_nil, x_var, x_int, x_bl, x_str, x_non, x_glo, x_bin, x_un, x_cmp, x_cmp2, asBl_bl, x_and, x_or, x_not, x_ite, x_tup, x_lst, x_lstC, x_call, x_callK, x_mk, x_mkC, x_mkK, x_meth, x_attr, x_ix, x_bi, x_sl, x_fz, x_nil, x_cons, x_onone, asI_int, x_osome, x_tval, x_tand, x_tor, x_tnot, x_iseq, walkR_tup, walkR_lst, walkR_klst, x_irange1, x_irange2, x_itxt, walkT_str, x_ienum, enR_eq, x_izip, forG_nil, x_comp, compG_nil, x_cnone, x_csome, x_bm, x_dnew, wipeD_cons, wipeD_nil, s_set_, s_par_, s_unp_, s_ret_, s_retN_, s_drop_, s_ife_, s_fr_, s_brk_, s_ct_, s_pass_, s_never_, s_setIx_, s_setAttr_, s_nil_, s_cons_, bind_ok, toS_ok, seq_nx, seq_ret, seq_brk, seq_ct, loop_nx, loop_ct, loop_brk, loop_ret, toR_ret, toR_nx, bin_ints, intB_add, intB_sub, biS, toIntS, setAll, List.getElem?_cons_zero, List.getElem?_cons_succ, List.set_cons_zero, List.set_cons_succ, List.map_cons, List.map_nil, List.length_cons, List.length_nil, List.cons_append, List.nil_append, List.append_nil, List.replicate_succ, List.replicate_zero, Nat.reduceAdd, Nat.reduceSub, Nat.zero_add, Nat.reduceLeDiff, if_true, if_false, Bool.false_eq_true, decide_true, decide_false, Bool.not_true, Bool.not_false, x_eFld, x_eIs, s_raise_, s_raise0_, s_aug_, aug_add, aug_sub, s_tryA_, s_tryO_, catchA_nx, catchA_ret, catchA_brk, catchA_ct, catchO_nx, catchO_ret, catchO_brk, catchO_ct, gone_nx, gone_ret, gone_brk, gone_ct, noX_nx, noX_ret, noX_brk, noX_ct, bind_exc, toS_exc, seq_exc, loop_exc, toR_exc, eFldS, eIsS, gl0, gl1, gl2, gl3, gl4, gl5, gl6, xs0_0, xs0_1, xs0_2, xs0_3, xi1, xk1_0, ra1, xs1_0, xs1_1, xs1_2, xs1_3, xi2, xk2_0, xk2_1, ra2, xs2_0, xs2_1, xs2_2, xs2_3, mi3_19, mi3_20, mi3_21, mi3_22, mi3_23, mi3_24, mi3_25, mi3_26, mi3_27, mi3_28, mi3_29, mi3_30, mi3_31, mi3_32, mi3_33, mi3_34, mi3_35, mi3_36, mi3_37, mi3_38, mi3_39, mi3_40, mi3_41, fd3_0, fd3_1, ho3]
  simp only [w, x_var, x_int, x_bl, x_str, x_non, x_glo, x_bin, x_un, x_cmp, x_cmp2, asBl_bl, x_and, x_or, x_not, x_ite, x_tup, x_lst, x_lstC, x_call, x_callK, x_mk, x_mkC, x_mkK, x_meth, x_attr, x_ix, x_bi, x_sl, x_fz, x_nil, x_cons, x_onone, asI_int, x_osome, x_tval, x_tand, x_tor, x_tnot, x_iseq, walkR_tup, walkR_lst, walkR_klst, x_irange1, x_irange2, x_itxt, walkT_str, x_ienum, enR_eq, x_izip, forG_nil, x_comp, compG_nil, x_cnone, x_csome, x_bm, x_dnew, wipeD_cons, wipeD_nil, s_set_, s_par_, s_unp_, s_ret_, s_retN_, s_drop_, s_ife_, s_fr_, s_brk_, s_ct_, s_pass_, s_never_, s_setIx_, s_setAttr_, s_nil_, s_cons_, bind_ok, toS_ok, seq_nx, seq_ret, seq_brk, seq_ct, loop_nx, loop_ct, loop_brk, loop_ret, toR_ret, toR_nx, bin_ints, intB_add, intB_sub, biS, toIntS, setAll, List.getElem?_cons_zero, List.getElem?_cons_succ, List.set_cons_zero, List.set_cons_succ, List.map_cons, List.map_nil, List.length_cons, List.length_nil, List.cons_append, List.nil_append, List.append_nil, List.replicate_succ, List.replicate_zero, Nat.reduceAdd, Nat.reduceSub, Nat.zero_add, Nat.reduceLeDiff, if_true, if_false, Bool.false_eq_true, decide_true, decide_false, Bool.not_true, Bool.not_false, x_eFld, x_eIs, s_raise_, s_raise0_, s_aug_, aug_add, aug_sub, s_tryA_, s_tryO_, catchA_nx, catchA_ret, catchA_brk, catchA_ct, catchO_nx, catchO_ret, catchO_brk, catchO_ct, gone_nx, gone_ret, gone_brk, gone_ct, noX_nx, noX_ret, noX_brk, noX_ct, bind_exc, toS_exc, seq_exc, loop_exc, toR_exc, eFldS, eIsS, gl0, gl1, gl2, gl3, gl4, gl5, gl6, xs0_0, xs0_1, xs0_2, xs0_3, xi1, xk1_0, ra1, xs1_0, xs1_1, xs1_2, xs1_3, xi2, xk2_0, xk2_1, ra2, xs2_0, xs2_1, xs2_2, xs2_3, mi3_19, mi3_20, mi3_21, mi3_22, mi3_23, mi3_24, mi3_25, mi3_26, mi3_27, mi3_28, mi3_29, mi3_30, mi3_31, mi3_32, mi3_33, mi3_34, mi3_35, mi3_36, mi3_37, mi3_38, mi3_39, mi3_40, mi3_41, fd3_0, fd3_1, ho3]
end K04
namespace K04
open PySem PySem.Spec PyProof.Rows L2 L3
/-! ### read and due -/
abbrev exw (w : Str) (μ : Mu) : Res D := .exc (.own 1) (some [.str w]) μ
theorem tl_slash : TL.tl ("/" : Str) = [47] := by decide +kernel
theorem tl_dash : TL.tl ("-" : Str) = [45] := by decide +kernel
theorem starts_dash (x : Str) : Txt.startswith x "-" = (match TL.tl x with
  | c :: _ => decide (c = 45)
  | [] => false) := by
  have l1 : ("-" : Str).length = 1 := by decide +kernel
  show (decide (0 + ("-" : Str).length ≤ x.length) && Builtin.Str.subAt x "-" 0) = _
  rw [StrLaws.subAt_eq, l1, TL.len_tl]
  show (decide (0 + 1 ≤ (TL.tl x).length) && ((TL.tl x).drop 0).take 1 == TL.tl ("-" : Str)) = _
  rw [tl_dash]
  cases TL.tl x with
  | nil => rfl
  | cons c r =>
    simp only [List.length_cons, List.drop_zero, List.take_succ_cons, List.take_zero]
    have : decide (0 + 1 ≤ r.length + 1) = true := decide_eq_true (by omega)
    rw [this, Bool.true_and, Bool.eq_iff_iff]
    simp
theorem sl_str {z : Str} {b : Bool} {lo hi : Option Int} {m : Mu} (h : z.length ≤ 1000000) : slS b (.str z) lo hi m = .ok (.str (cutS z lo hi)) m := by
  show (if z.length ≤ 1000000 then Res.ok (D.str (cutS z lo hi)) m else .stuck) = _
  rw [if_pos h]
theorem cut_lo {z : Str} {k : Nat} : TL.tl (cutS z (some (k : Int)) none) = (TL.tl z).drop k := by
  show ((TL.tl z).drop (HT.sIx z.length 0 (some ((k : Nat) : Int)))).take (HT.sIx z.length z.length none - HT.sIx z.length 0 (some ((k : Nat) : Int))) = _
  rw [HT.sIx_none, HT.sIx_nat, TL.len_tl]
  by_cases h : k ≤ (TL.tl z).length
  · rw [Nat.min_eq_left h]
    exact List.take_of_length_le (by rw [List.length_drop]; omega)
  · rw [Nat.min_eq_right (by omega), List.drop_length, List.drop_eq_nil_of_le (by omega)]
    simp
theorem cut_hi {z : Str} {k : Nat} : TL.tl (cutS z none (some (k : Int))) = (TL.tl z).take k := by
  show ((TL.tl z).drop (HT.sIx z.length 0 none)).take (HT.sIx z.length z.length (some ((k : Nat) : Int)) - HT.sIx z.length 0 none) = _
  rw [HT.sIx_none, HT.sIx_nat, TL.len_tl, List.drop_zero, Nat.sub_zero]
  by_cases h : k ≤ (TL.tl z).length
  · rw [Nat.min_eq_left h]
  · rw [Nat.min_eq_right (by omega), List.take_length, List.take_of_length_le (by omega)]
/-- a minus sign -/
def ngS (z : Str) : Bool := Txt.startswith z "-"
/-- the text without it -/
def bdS (z : Str) : Str := if ngS z = true then ⟨((TL.tl z).drop 1).toArray⟩ else z
theorem cut_r (z : Str) : cutS z (some (if ngS z = true then 1 else 0)) none = bdS z := by
  apply TL.ext_tl
  unfold bdS
  cases h : ngS z with
  | true =>
    rw [if_pos rfl, if_pos rfl]
    exact cut_lo (k := 1)
  | false =>
    rw [if_neg (by decide), if_neg (by decide)]
    exact cut_lo (k := 0)
theorem cut_1 (z : Str) (h : ngS z = true) : cutS z (some 1) none = bdS z := by
  have q := cut_r z
  rw [if_pos h] at q
  exact q
theorem bd_pos {z : Str} (h : ngS z = false) : bdS z = z := by
  unfold bdS
  rw [h, if_neg (by decide)]
theorem first_dash (z : Str) : decide (cutS z none (some 1) = "-") = ngS z := by
  unfold ngS
  rw [starts_dash, Bool.eq_iff_iff, decide_eq_true_eq]
  have e : cutS z none (some 1) = "-" ↔ (TL.tl z).take 1 = [45] := by
    constructor
    · intro h
      have q := congrArg TL.tl h
      rw [tl_dash] at q
      rw [← q]
      exact (cut_hi (k := 1)).symm
    · intro h
      apply TL.ext_tl
      rw [tl_dash, ← h]
      exact cut_hi (k := 1)
  rw [e]
  cases TL.tl z with
  | nil => simp
  | cons c r => simp
theorem bd_len (z : Str) : (bdS z).length ≤ z.length := by
  unfold bdS
  split
  · rw [TL.len_tl, TL.len_tl, TL.tl_mk, List.length_drop]
    omega
  · exact Nat.le_refl _
/-- the body and its slash -/
inductive Cut (z : Str) : Prop
  | one (h : 47 ∉ TL.tl z)
  | two (a b : Str) (h : 47 ∉ TL.tl a) (e : z = a ++ "/" ++ b)
theorem cut_of (z : Str) : Cut z := by
  by_cases h : 47 ∈ TL.tl z
  · obtain ⟨a, b, e, ha⟩ := List.eq_append_cons_of_mem h
    refine .two ⟨a.toArray⟩ ⟨b.toArray⟩ ha ?_
    apply TL.ext_tl
    rw [e, TL.tl_append, TL.tl_append, tl_slash, TL.tl_mk, TL.tl_mk]
    simp
  · exact .one h
theorem sp_one {z : Str} (h : 47 ∉ TL.tl z) : Txt.split z "/" = [z] := by
  refine TL.map_tl_inj ?_
  rw [TL.split_spl _ _ (by rw [tl_slash]; simp) (TL.kind_ok (by decide +kernel)), tl_slash, TL.spl_last1 h]
  rfl
theorem sp_two {a b : Str} (h : 47 ∉ TL.tl a) : Txt.split (a ++ "/" ++ b) "/" = a :: Txt.split b "/" := by
  refine TL.map_tl_inj ?_
  have k : ∀ x : Str, ¬ Builtin.Str.strKind x < Builtin.Str.strKind ("/" : Str) := fun x => TL.kind_ok (by decide +kernel)
  rw [List.map_cons, TL.split_spl _ _ (by rw [tl_slash]; simp) (k _), TL.split_spl _ _ (by rw [tl_slash]; simp) (k _), tl_slash, TL.tl_append, TL.tl_append, tl_slash, List.append_assoc]
  exact TL.spl_part1 h
theorem sp_len (b : Str) : 1 ≤ (Txt.split b "/").length := by
  rcases cut_of b with h | ⟨a, c, h, rfl⟩
  · rw [sp_one h]
    exact Nat.le_refl _
  · rw [sp_two h, List.length_cons]
    omega
theorem sp_mem {b : Str} (h : 47 ∈ TL.tl b) : 2 ≤ (Txt.split b "/").length := by
  rcases cut_of b with h' | ⟨a, c, h', rfl⟩
  · exact absurd h h'
  · rw [sp_two h', List.length_cons]
    have := sp_len c
    omega
theorem n_low {t b : Int} (hb : 0 < b) (g : Int.gcd t b = 1) : nT t b = t ∧ nB t b = b := by
  have h1 := nT_mul (t := t) (b := b)
  have h2 := nB_mul (t := t) (b := b)
  have s : sg t b = t := by
    unfold sg
    rw [if_neg (by omega)]
  rw [g, s] at h1
  rw [g] at h2
  constructor <;> omega
theorem is_int {S : Sig} {run : Nat → List D → PM D} {i : Int} {m : Mu} : cmpS S run .Is (.int i) .non m = .ok (.bl false) m := rfl
theorem is_non {S : Sig} {run : Nat → List D → PM D} {m : Mu} : cmpS S run .Is .non .non m = .ok (.bl true) m := rfl
theorem isi_str {z : Str} {m : Mu} : isiS S (.str z) (.ty "str") m = .ok (.bl true) m := rfl
theorem sw_ok {z : Str} {args : Mu → Res (List D)} {m : Mu} (ha : args m = .ok [.str "-"] m) : bmS .startswith (.str z) args m = .ok (.bl (ngS z)) m := by
  unfold bmS
  have k : BM.ok .startswith (.str z) m = true := rfl
  rw [if_pos k, ha, bind_ok]
  rfl
theorem pt_ok {z : Str} {args : Mu → Res (List D)} {m : Mu} (h : z.length ≤ 1000000) (ha : args m = .ok [.str "/"] m) : bmS .partition (.str z) args m = .ok (.tup [.str (Txt.partition z "/").1, .str (Txt.partition z "/").2.1, .str (Txt.partition z "/").2.2]) m := by
  unfold bmS
  have k : BM.ok .partition (.str z) m = true := rfl
  rw [if_pos k, ha, bind_ok]
  show (if (("/" : Str).length == 0) = false ∧ z.length ≤ 1000000 then _ else Res.stuck) = _
  rw [if_pos ⟨by decide +kernel, h⟩]
theorem sp_ok {z : Str} {args : Mu → Res (List D)} {m : Mu} (h : z.length + 2 ≤ 1000000) (ha : args m = .ok [.str "/"] m) : bmS .split (.str z) args m = .ok (.lst ((Txt.split z "/").map .str)) m := by
  unfold bmS
  have k : BM.ok .split (.str z) m = true := rfl
  rw [if_pos k, ha, bind_ok]
  show (if (("/" : Str).length == 0) = false ∧ z.length + 2 ≤ 1000000 then _ else Res.stuck) = _
  rw [if_pos ⟨by decide +kernel, h⟩]
theorem e_sl : decide ((Str.empty : Str) = "/") = false := by decide +kernel
theorem s_sl : decide (("/" : Str) = "/") = true := by decide +kernel
/-- what a text tells: its parts' numbers -/
def outc (neg : Bool) (t b : Option Nat) (sl : Bool) : Option (Int × Int) := match t, b with
  | some t, some b => if (sl && decide (b < 2)) = true ∨ (neg && decide (t = 0)) = true ∨ Nat.gcd t b ≠ 1 then none else some (if neg = true then -(t : Int) else t, b)
  | _, _ => none
def outZ (z : Str) (o : Option (Int × Int)) : Prop := (47 ∉ TL.tl (bdS z) ∧ o = outc (ngS z) (wZ (bdS z)) (some 1) false) ∨ ∃ a b, 47 ∉ TL.tl a ∧ bdS z = a ++ "/" ++ b ∧ o = outc (ngS z) (wZ a) (wZ b) true
theorem out_ex (z : Str) : ∃ o, outZ z o := by
  rcases cut_of (bdS z) with h | ⟨a, b, h, e⟩
  · exact ⟨_, .inl ⟨h, rfl⟩⟩
  · exact ⟨_, .inr ⟨a, b, h, e, rfl⟩⟩
def ratO (o : Option (Int × Int)) (μ : Mu) : Res D := match o with
  | some p => .ok (rat p.1 p.2) μ
  | none => exw "text" μ
abbrev refT : D := .tup [.str "refused", .str "text"]
def dueO (o : Option (Int × Int)) : D := match o with
  | some p => .tup [.str "told", .int p.1, .int p.2]
  | none => refT
theorem app_len (a b : Str) : (a ++ b).length = a.length + b.length := by
  rw [TL.len_tl, TL.tl_append, List.length_append, ← TL.len_tl, ← TL.len_tl]
theorem one_lt : (1 : Nat) < 10 ^ 60 := by decide
theorem mk_ok {n a b : Nat} {neg : Bool} (hb : b < 10 ^ 60) (b0 : 0 < b) (g : Nat.gcd a b = 1) (t : Int) (e : t.natAbs = a) (m : Mu) : mkS true 3 (fun o m => mrun S (runS S (n + 2)) 3 "__init__" (o ++ [.int t, .int (b : Nat)]) m) m = .ok (rat t (b : Nat)) m := by
  have B8 : ((b : Nat) : Int) ≠ 0 := by omega
  have bd : Bd 8000 ((b : Nat) : Int) := by
    show ((b : Nat) : Int).natAbs < 2 ^ 8000
    have : (10 : Nat) ^ 60 < 2 ^ 8000 := by decide +kernel
    omega
  have g2 := n_low (t := t) (b := (b : Int)) (by omega) (by
    show Nat.gcd t.natAbs ((b : Nat) : Int).natAbs = 1
    rw [e]
    exact g)
  rw [mk_rat (n := n) B8 bd, g2.1, g2.2]
end K04
namespace K04
open PySem PySem.Spec PyProof.Rows L2 L3
theorem outc_ok {neg : Bool} {t b : Nat} {sl : Bool} (h1 : ¬ (sl = true ∧ b < 2)) (h2 : ¬ (neg = true ∧ t = 0)) (h3 : Nat.gcd t b = 1) : outc neg (some t) (some b) sl = some (if neg = true then -(t : Int) else t, (b : Int)) := by
  unfold outc
  refine if_neg ?_
  simp only [Bool.and_eq_true, decide_eq_true_eq]
  rintro (h | h | h)
  · exact h1 h
  · exact h2 h
  · exact h h3
theorem outc_no {neg : Bool} {t b : Nat} {sl : Bool} (h : (sl = true ∧ b < 2) ∨ (neg = true ∧ t = 0) ∨ Nat.gcd t b ≠ 1) : outc neg (some t) (some b) sl = none := by
  unfold outc
  refine if_pos ?_
  simp only [Bool.and_eq_true, decide_eq_true_eq]
  exact h
theorem cd_nat {n a b : Nat} {m : Mu} : runS S (n + 1) 1 [.int (a : Nat), .int (b : Nat)] m = .ok (.int (Nat.gcd a b : Nat)) m := cd_ok (n := n)
theorem read_ok {n : Nat} {z : Str} {o : Option (Int × Int)} {μ : Mu} (hz : z.length ≤ 999990) (h : outZ z o) : runS S (n + 3) 42 [.str z] μ = ratO o μ := by
  have bl := bd_len z
  have sw := sw_ok (z := z) (m := μ) (args := semA S (runS S (n + 2)) (.cons (.str "-") .nil) [some (.str z), none, none, none, none, none, none]) (by simp only [x_var, x_int, x_bl, x_str, x_non, x_glo, x_bin, x_un, x_cmp, x_cmp2, asBl_bl, x_and, x_or, x_not, x_ite, x_tup, x_lst, x_lstC, x_call, x_callK, x_mk, x_mkC, x_mkK, x_meth, x_attr, x_ix, x_bi, x_sl, x_fz, x_nil, x_cons, x_onone, asI_int, x_osome, x_tval, x_tand, x_tor, x_tnot, x_iseq, walkR_tup, walkR_lst, walkR_klst, x_irange1, x_irange2, x_itxt, walkT_str, x_ienum, enR_eq, x_izip, forG_nil, x_comp, compG_nil, x_cnone, x_csome, x_bm, x_dnew, wipeD_cons, wipeD_nil, s_set_, s_par_, s_unp_, s_ret_, s_retN_, s_drop_, s_ife_, s_fr_, s_brk_, s_ct_, s_pass_, s_never_, s_setIx_, s_setAttr_, s_nil_, s_cons_, bind_ok, toS_ok, seq_nx, seq_ret, seq_brk, seq_ct, loop_nx, loop_ct, loop_brk, loop_ret, toR_ret, toR_nx, bin_ints, intB_add, intB_sub, biS, toIntS, setAll, List.getElem?_cons_zero, List.getElem?_cons_succ, List.set_cons_zero, List.set_cons_succ, List.map_cons, List.map_nil, List.length_cons, List.length_nil, List.cons_append, List.nil_append, List.append_nil, List.replicate_succ, List.replicate_zero, Nat.reduceAdd, Nat.reduceSub, Nat.zero_add, Nat.reduceLeDiff, if_true, if_false, Bool.false_eq_true, decide_true, decide_false, Bool.not_true, Bool.not_false, x_eFld, x_eIs, s_raise_, s_raise0_, s_aug_, aug_add, aug_sub, s_tryA_, s_tryO_, catchA_nx, catchA_ret, catchA_brk, catchA_ct, catchO_nx, catchO_ret, catchO_brk, catchO_ct, gone_nx, gone_ret, gone_brk, gone_ct, noX_nx, noX_ret, noX_brk, noX_ct, bind_exc, toS_exc, seq_exc, loop_exc, toR_exc, eFldS, eIsS, gl0, gl1, gl2, gl3, gl4, gl5, gl6, xs0_0, xs0_1, xs0_2, xs0_3, xi1, xk1_0, ra1, xs1_0, xs1_1, xs1_2, xs1_3, xi2, xk2_0, xk2_1, ra2, xs2_0, xs2_1, xs2_2, xs2_3, mi3_19, mi3_20, mi3_21, mi3_22, mi3_23, mi3_24, mi3_25, mi3_26, mi3_27, mi3_28, mi3_29, mi3_30, mi3_31, mi3_32, mi3_33, mi3_34, mi3_35, mi3_36, mi3_37, mi3_38, mi3_39, mi3_40, mi3_41, fd3_0, fd3_1, ho3])
  have sl := sl_str (z := z) (b := false) (lo := some (if ngS z = true then 1 else 0)) (hi := none) (m := μ) (by omega)
  rw [cut_r] at sl
  have pt := pt_ok (z := bdS z) (m := μ) (args := semA S (runS S (n + 2)) (.cons (.str "/") .nil) [some (.str z), some (.bl (ngS z)), none, none, none, none, none]) (by omega) (by simp only [x_var, x_int, x_bl, x_str, x_non, x_glo, x_bin, x_un, x_cmp, x_cmp2, asBl_bl, x_and, x_or, x_not, x_ite, x_tup, x_lst, x_lstC, x_call, x_callK, x_mk, x_mkC, x_mkK, x_meth, x_attr, x_ix, x_bi, x_sl, x_fz, x_nil, x_cons, x_onone, asI_int, x_osome, x_tval, x_tand, x_tor, x_tnot, x_iseq, walkR_tup, walkR_lst, walkR_klst, x_irange1, x_irange2, x_itxt, walkT_str, x_ienum, enR_eq, x_izip, forG_nil, x_comp, compG_nil, x_cnone, x_csome, x_bm, x_dnew, wipeD_cons, wipeD_nil, s_set_, s_par_, s_unp_, s_ret_, s_retN_, s_drop_, s_ife_, s_fr_, s_brk_, s_ct_, s_pass_, s_never_, s_setIx_, s_setAttr_, s_nil_, s_cons_, bind_ok, toS_ok, seq_nx, seq_ret, seq_brk, seq_ct, loop_nx, loop_ct, loop_brk, loop_ret, toR_ret, toR_nx, bin_ints, intB_add, intB_sub, biS, toIntS, setAll, List.getElem?_cons_zero, List.getElem?_cons_succ, List.set_cons_zero, List.set_cons_succ, List.map_cons, List.map_nil, List.length_cons, List.length_nil, List.cons_append, List.nil_append, List.append_nil, List.replicate_succ, List.replicate_zero, Nat.reduceAdd, Nat.reduceSub, Nat.zero_add, Nat.reduceLeDiff, if_true, if_false, Bool.false_eq_true, decide_true, decide_false, Bool.not_true, Bool.not_false, x_eFld, x_eIs, s_raise_, s_raise0_, s_aug_, aug_add, aug_sub, s_tryA_, s_tryO_, catchA_nx, catchA_ret, catchA_brk, catchA_ct, catchO_nx, catchO_ret, catchO_brk, catchO_ct, gone_nx, gone_ret, gone_brk, gone_ct, noX_nx, noX_ret, noX_brk, noX_ct, bind_exc, toS_exc, seq_exc, loop_exc, toR_exc, eFldS, eIsS, gl0, gl1, gl2, gl3, gl4, gl5, gl6, xs0_0, xs0_1, xs0_2, xs0_3, xi1, xk1_0, ra1, xs1_0, xs1_1, xs1_2, xs1_3, xi2, xk2_0, xk2_1, ra2, xs2_0, xs2_1, xs2_2, xs2_3, mi3_19, mi3_20, mi3_21, mi3_22, mi3_23, mi3_24, mi3_25, mi3_26, mi3_27, mi3_28, mi3_29, mi3_30, mi3_31, mi3_32, mi3_33, mi3_34, mi3_35, mi3_36, mi3_37, mi3_38, mi3_39, mi3_40, mi3_41, fd3_0, fd3_1, ho3])
  have mk := fun (t : Int) (a b : Nat) (e : t.natAbs = a) (hb : b < 10 ^ 60) (b0 : 0 < b) (g : Nat.gcd a b = 1) m => mk_ok (n := n) (neg := false) hb b0 g t e m
  rw [run_raw (fi := f42) rfl rfl rfl]
  rcases h with ⟨h, rfl⟩ | ⟨a, b, h, e, rfl⟩
  · rw [TL.partition_none tl_slash h] at pt
    dsimp only at pt
    have w1 := wh_ok (n := n + 1) (z := bdS z) (μ := μ) (by omega)
    have lt := fun k (h : wZ (bdS z) = some k) => wZ_lt h
    generalize wZ (bdS z) = t at *
    generalize bdS z = y at *
    generalize ngS z = neg at *
    cases t with
    | none =>
      cases neg <;> simp only [Bool.false_eq_true, if_true, if_false] at sl <;>
        simp only [f42, b42, isi_str, sw, sl, pt, w1, c_str, e_sl, optD, is_non, ratO, outc, x_var, x_int, x_bl, x_str, x_non, x_glo, x_bin, x_un, x_cmp, x_cmp2, asBl_bl, x_and, x_or, x_not, x_ite, x_tup, x_lst, x_lstC, x_call, x_callK, x_mk, x_mkC, x_mkK, x_meth, x_attr, x_ix, x_bi, x_sl, x_fz, x_nil, x_cons, x_onone, asI_int, x_osome, x_tval, x_tand, x_tor, x_tnot, x_iseq, walkR_tup, walkR_lst, walkR_klst, x_irange1, x_irange2, x_itxt, walkT_str, x_ienum, enR_eq, x_izip, forG_nil, x_comp, compG_nil, x_cnone, x_csome, x_bm, x_dnew, wipeD_cons, wipeD_nil, s_set_, s_par_, s_unp_, s_ret_, s_retN_, s_drop_, s_ife_, s_fr_, s_brk_, s_ct_, s_pass_, s_never_, s_setIx_, s_setAttr_, s_nil_, s_cons_, bind_ok, toS_ok, seq_nx, seq_ret, seq_brk, seq_ct, loop_nx, loop_ct, loop_brk, loop_ret, toR_ret, toR_nx, bin_ints, intB_add, intB_sub, biS, toIntS, setAll, List.getElem?_cons_zero, List.getElem?_cons_succ, List.set_cons_zero, List.set_cons_succ, List.map_cons, List.map_nil, List.length_cons, List.length_nil, List.cons_append, List.nil_append, List.append_nil, List.replicate_succ, List.replicate_zero, Nat.reduceAdd, Nat.reduceSub, Nat.zero_add, Nat.reduceLeDiff, if_true, if_false, Bool.false_eq_true, decide_true, decide_false, Bool.not_true, Bool.not_false, x_eFld, x_eIs, s_raise_, s_raise0_, s_aug_, aug_add, aug_sub, s_tryA_, s_tryO_, catchA_nx, catchA_ret, catchA_brk, catchA_ct, catchO_nx, catchO_ret, catchO_brk, catchO_ct, gone_nx, gone_ret, gone_brk, gone_ct, noX_nx, noX_ret, noX_brk, noX_ct, bind_exc, toS_exc, seq_exc, loop_exc, toR_exc, eFldS, eIsS, gl0, gl1, gl2, gl3, gl4, gl5, gl6, xs0_0, xs0_1, xs0_2, xs0_3, xi1, xk1_0, ra1, xs1_0, xs1_1, xs1_2, xs1_3, xi2, xk2_0, xk2_1, ra2, xs2_0, xs2_1, xs2_2, xs2_3, mi3_19, mi3_20, mi3_21, mi3_22, mi3_23, mi3_24, mi3_25, mi3_26, mi3_27, mi3_28, mi3_29, mi3_30, mi3_31, mi3_32, mi3_33, mi3_34, mi3_35, mi3_36, mi3_37, mi3_38, mi3_39, mi3_40, mi3_41, fd3_0, fd3_1, ho3]
    | some t =>
      have cd := fun m => cd_nat (n := n + 1) (a := t) (b := 1) (m := m)
      rw [Nat.gcd_one_right] at cd
      have one : decide ((1 : Int) = 1) = true := rfl
      simp only [Int.natCast_one] at cd
      cases neg with
      | true =>
        simp only [if_true] at sl
        by_cases t0 : t = 0
        · have i0 : ((t : Nat) : Int) = 0 := by omega
          rw [outc_no (.inr (.inl ⟨rfl, t0⟩))]
          simp only [f42, b42, isi_str, sw, sl, pt, w1, c_str, e_sl, optD, is_int, c_eq, dt i0, ratO, x_var, x_int, x_bl, x_str, x_non, x_glo, x_bin, x_un, x_cmp, x_cmp2, asBl_bl, x_and, x_or, x_not, x_ite, x_tup, x_lst, x_lstC, x_call, x_callK, x_mk, x_mkC, x_mkK, x_meth, x_attr, x_ix, x_bi, x_sl, x_fz, x_nil, x_cons, x_onone, asI_int, x_osome, x_tval, x_tand, x_tor, x_tnot, x_iseq, walkR_tup, walkR_lst, walkR_klst, x_irange1, x_irange2, x_itxt, walkT_str, x_ienum, enR_eq, x_izip, forG_nil, x_comp, compG_nil, x_cnone, x_csome, x_bm, x_dnew, wipeD_cons, wipeD_nil, s_set_, s_par_, s_unp_, s_ret_, s_retN_, s_drop_, s_ife_, s_fr_, s_brk_, s_ct_, s_pass_, s_never_, s_setIx_, s_setAttr_, s_nil_, s_cons_, bind_ok, toS_ok, seq_nx, seq_ret, seq_brk, seq_ct, loop_nx, loop_ct, loop_brk, loop_ret, toR_ret, toR_nx, bin_ints, intB_add, intB_sub, biS, toIntS, setAll, List.getElem?_cons_zero, List.getElem?_cons_succ, List.set_cons_zero, List.set_cons_succ, List.map_cons, List.map_nil, List.length_cons, List.length_nil, List.cons_append, List.nil_append, List.append_nil, List.replicate_succ, List.replicate_zero, Nat.reduceAdd, Nat.reduceSub, Nat.zero_add, Nat.reduceLeDiff, if_true, if_false, Bool.false_eq_true, decide_true, decide_false, Bool.not_true, Bool.not_false, x_eFld, x_eIs, s_raise_, s_raise0_, s_aug_, aug_add, aug_sub, s_tryA_, s_tryO_, catchA_nx, catchA_ret, catchA_brk, catchA_ct, catchO_nx, catchO_ret, catchO_brk, catchO_ct, gone_nx, gone_ret, gone_brk, gone_ct, noX_nx, noX_ret, noX_brk, noX_ct, bind_exc, toS_exc, seq_exc, loop_exc, toR_exc, eFldS, eIsS, gl0, gl1, gl2, gl3, gl4, gl5, gl6, xs0_0, xs0_1, xs0_2, xs0_3, xi1, xk1_0, ra1, xs1_0, xs1_1, xs1_2, xs1_3, xi2, xk2_0, xk2_1, ra2, xs2_0, xs2_1, xs2_2, xs2_3, mi3_19, mi3_20, mi3_21, mi3_22, mi3_23, mi3_24, mi3_25, mi3_26, mi3_27, mi3_28, mi3_29, mi3_30, mi3_31, mi3_32, mi3_33, mi3_34, mi3_35, mi3_36, mi3_37, mi3_38, mi3_39, mi3_40, mi3_41, fd3_0, fd3_1, ho3]
        · have i0 : ¬ ((t : Nat) : Int) = 0 := by omega
          rw [outc_ok (by simp) (by simp [t0]) (Nat.gcd_one_right t)]
          have m1 := mk (-(t : Int)) t 1 (by simp) one_lt (by decide) (Nat.gcd_one_right t)
          simp only [Int.natCast_one] at m1
          simp only [f42, b42, isi_str, sw, sl, pt, w1, c_str, e_sl, optD, is_int, c_eq, df i0, cd, c_ne, one, un_neg_int, m1, ratO, Int.natCast_one, x_var, x_int, x_bl, x_str, x_non, x_glo, x_bin, x_un, x_cmp, x_cmp2, asBl_bl, x_and, x_or, x_not, x_ite, x_tup, x_lst, x_lstC, x_call, x_callK, x_mk, x_mkC, x_mkK, x_meth, x_attr, x_ix, x_bi, x_sl, x_fz, x_nil, x_cons, x_onone, asI_int, x_osome, x_tval, x_tand, x_tor, x_tnot, x_iseq, walkR_tup, walkR_lst, walkR_klst, x_irange1, x_irange2, x_itxt, walkT_str, x_ienum, enR_eq, x_izip, forG_nil, x_comp, compG_nil, x_cnone, x_csome, x_bm, x_dnew, wipeD_cons, wipeD_nil, s_set_, s_par_, s_unp_, s_ret_, s_retN_, s_drop_, s_ife_, s_fr_, s_brk_, s_ct_, s_pass_, s_never_, s_setIx_, s_setAttr_, s_nil_, s_cons_, bind_ok, toS_ok, seq_nx, seq_ret, seq_brk, seq_ct, loop_nx, loop_ct, loop_brk, loop_ret, toR_ret, toR_nx, bin_ints, intB_add, intB_sub, biS, toIntS, setAll, List.getElem?_cons_zero, List.getElem?_cons_succ, List.set_cons_zero, List.set_cons_succ, List.map_cons, List.map_nil, List.length_cons, List.length_nil, List.cons_append, List.nil_append, List.append_nil, List.replicate_succ, List.replicate_zero, Nat.reduceAdd, Nat.reduceSub, Nat.zero_add, Nat.reduceLeDiff, if_true, if_false, Bool.false_eq_true, decide_true, decide_false, Bool.not_true, Bool.not_false, x_eFld, x_eIs, s_raise_, s_raise0_, s_aug_, aug_add, aug_sub, s_tryA_, s_tryO_, catchA_nx, catchA_ret, catchA_brk, catchA_ct, catchO_nx, catchO_ret, catchO_brk, catchO_ct, gone_nx, gone_ret, gone_brk, gone_ct, noX_nx, noX_ret, noX_brk, noX_ct, bind_exc, toS_exc, seq_exc, loop_exc, toR_exc, eFldS, eIsS, gl0, gl1, gl2, gl3, gl4, gl5, gl6, xs0_0, xs0_1, xs0_2, xs0_3, xi1, xk1_0, ra1, xs1_0, xs1_1, xs1_2, xs1_3, xi2, xk2_0, xk2_1, ra2, xs2_0, xs2_1, xs2_2, xs2_3, mi3_19, mi3_20, mi3_21, mi3_22, mi3_23, mi3_24, mi3_25, mi3_26, mi3_27, mi3_28, mi3_29, mi3_30, mi3_31, mi3_32, mi3_33, mi3_34, mi3_35, mi3_36, mi3_37, mi3_38, mi3_39, mi3_40, mi3_41, fd3_0, fd3_1, ho3]
      | false =>
        simp only [Bool.false_eq_true, if_false] at sl
        rw [outc_ok (by simp) (by simp) (Nat.gcd_one_right t)]
        have m1 := mk (t : Int) t 1 (by simp) one_lt (by decide) (Nat.gcd_one_right t)
        simp only [Int.natCast_one] at m1
        simp only [f42, b42, isi_str, sw, sl, pt, w1, c_str, e_sl, optD, is_int, c_eq, cd, c_ne, one, m1, ratO, Int.natCast_one, x_var, x_int, x_bl, x_str, x_non, x_glo, x_bin, x_un, x_cmp, x_cmp2, asBl_bl, x_and, x_or, x_not, x_ite, x_tup, x_lst, x_lstC, x_call, x_callK, x_mk, x_mkC, x_mkK, x_meth, x_attr, x_ix, x_bi, x_sl, x_fz, x_nil, x_cons, x_onone, asI_int, x_osome, x_tval, x_tand, x_tor, x_tnot, x_iseq, walkR_tup, walkR_lst, walkR_klst, x_irange1, x_irange2, x_itxt, walkT_str, x_ienum, enR_eq, x_izip, forG_nil, x_comp, compG_nil, x_cnone, x_csome, x_bm, x_dnew, wipeD_cons, wipeD_nil, s_set_, s_par_, s_unp_, s_ret_, s_retN_, s_drop_, s_ife_, s_fr_, s_brk_, s_ct_, s_pass_, s_never_, s_setIx_, s_setAttr_, s_nil_, s_cons_, bind_ok, toS_ok, seq_nx, seq_ret, seq_brk, seq_ct, loop_nx, loop_ct, loop_brk, loop_ret, toR_ret, toR_nx, bin_ints, intB_add, intB_sub, biS, toIntS, setAll, List.getElem?_cons_zero, List.getElem?_cons_succ, List.set_cons_zero, List.set_cons_succ, List.map_cons, List.map_nil, List.length_cons, List.length_nil, List.cons_append, List.nil_append, List.append_nil, List.replicate_succ, List.replicate_zero, Nat.reduceAdd, Nat.reduceSub, Nat.zero_add, Nat.reduceLeDiff, if_true, if_false, Bool.false_eq_true, decide_true, decide_false, Bool.not_true, Bool.not_false, x_eFld, x_eIs, s_raise_, s_raise0_, s_aug_, aug_add, aug_sub, s_tryA_, s_tryO_, catchA_nx, catchA_ret, catchA_brk, catchA_ct, catchO_nx, catchO_ret, catchO_brk, catchO_ct, gone_nx, gone_ret, gone_brk, gone_ct, noX_nx, noX_ret, noX_brk, noX_ct, bind_exc, toS_exc, seq_exc, loop_exc, toR_exc, eFldS, eIsS, gl0, gl1, gl2, gl3, gl4, gl5, gl6, xs0_0, xs0_1, xs0_2, xs0_3, xi1, xk1_0, ra1, xs1_0, xs1_1, xs1_2, xs1_3, xi2, xk2_0, xk2_1, ra2, xs2_0, xs2_1, xs2_2, xs2_3, mi3_19, mi3_20, mi3_21, mi3_22, mi3_23, mi3_24, mi3_25, mi3_26, mi3_27, mi3_28, mi3_29, mi3_30, mi3_31, mi3_32, mi3_33, mi3_34, mi3_35, mi3_36, mi3_37, mi3_38, mi3_39, mi3_40, mi3_41, fd3_0, fd3_1, ho3]
  · have la : a.length + 1 + b.length ≤ 999990 := by
      have q := bl
      rw [e, app_len, app_len] at q
      have : ("/" : Str).length = 1 := by decide +kernel
      omega
    rw [e, TL.partition_app tl_slash h] at pt
    dsimp only at pt
    have w1 := wh_ok (n := n + 1) (z := a) (μ := μ) (by omega)
    have w2 := wh_ok (n := n + 1) (z := b) (μ := μ) (by omega)
    rw [e] at sl
    generalize a ++ "/" ++ b = y at *
    have lt := fun k (h : wZ b = some k) => wZ_lt h
    generalize wZ a = t at *
    generalize wZ b = u at *
    generalize ngS z = neg at *
    cases t with
    | none =>
      cases neg <;> simp only [Bool.false_eq_true, if_true, if_false] at sl <;>
        simp only [f42, b42, isi_str, sw, sl, pt, w1, w2, c_str, s_sl, optD, is_non, ratO, outc, x_var, x_int, x_bl, x_str, x_non, x_glo, x_bin, x_un, x_cmp, x_cmp2, asBl_bl, x_and, x_or, x_not, x_ite, x_tup, x_lst, x_lstC, x_call, x_callK, x_mk, x_mkC, x_mkK, x_meth, x_attr, x_ix, x_bi, x_sl, x_fz, x_nil, x_cons, x_onone, asI_int, x_osome, x_tval, x_tand, x_tor, x_tnot, x_iseq, walkR_tup, walkR_lst, walkR_klst, x_irange1, x_irange2, x_itxt, walkT_str, x_ienum, enR_eq, x_izip, forG_nil, x_comp, compG_nil, x_cnone, x_csome, x_bm, x_dnew, wipeD_cons, wipeD_nil, s_set_, s_par_, s_unp_, s_ret_, s_retN_, s_drop_, s_ife_, s_fr_, s_brk_, s_ct_, s_pass_, s_never_, s_setIx_, s_setAttr_, s_nil_, s_cons_, bind_ok, toS_ok, seq_nx, seq_ret, seq_brk, seq_ct, loop_nx, loop_ct, loop_brk, loop_ret, toR_ret, toR_nx, bin_ints, intB_add, intB_sub, biS, toIntS, setAll, List.getElem?_cons_zero, List.getElem?_cons_succ, List.set_cons_zero, List.set_cons_succ, List.map_cons, List.map_nil, List.length_cons, List.length_nil, List.cons_append, List.nil_append, List.append_nil, List.replicate_succ, List.replicate_zero, Nat.reduceAdd, Nat.reduceSub, Nat.zero_add, Nat.reduceLeDiff, if_true, if_false, Bool.false_eq_true, decide_true, decide_false, Bool.not_true, Bool.not_false, x_eFld, x_eIs, s_raise_, s_raise0_, s_aug_, aug_add, aug_sub, s_tryA_, s_tryO_, catchA_nx, catchA_ret, catchA_brk, catchA_ct, catchO_nx, catchO_ret, catchO_brk, catchO_ct, gone_nx, gone_ret, gone_brk, gone_ct, noX_nx, noX_ret, noX_brk, noX_ct, bind_exc, toS_exc, seq_exc, loop_exc, toR_exc, eFldS, eIsS, gl0, gl1, gl2, gl3, gl4, gl5, gl6, xs0_0, xs0_1, xs0_2, xs0_3, xi1, xk1_0, ra1, xs1_0, xs1_1, xs1_2, xs1_3, xi2, xk2_0, xk2_1, ra2, xs2_0, xs2_1, xs2_2, xs2_3, mi3_19, mi3_20, mi3_21, mi3_22, mi3_23, mi3_24, mi3_25, mi3_26, mi3_27, mi3_28, mi3_29, mi3_30, mi3_31, mi3_32, mi3_33, mi3_34, mi3_35, mi3_36, mi3_37, mi3_38, mi3_39, mi3_40, mi3_41, fd3_0, fd3_1, ho3]
    | some t =>
      cases u with
      | none =>
        cases neg <;> simp only [Bool.false_eq_true, if_true, if_false] at sl <;>
          simp only [f42, b42, isi_str, sw, sl, pt, w1, w2, c_str, s_sl, optD, is_int, is_non, ratO, outc, x_var, x_int, x_bl, x_str, x_non, x_glo, x_bin, x_un, x_cmp, x_cmp2, asBl_bl, x_and, x_or, x_not, x_ite, x_tup, x_lst, x_lstC, x_call, x_callK, x_mk, x_mkC, x_mkK, x_meth, x_attr, x_ix, x_bi, x_sl, x_fz, x_nil, x_cons, x_onone, asI_int, x_osome, x_tval, x_tand, x_tor, x_tnot, x_iseq, walkR_tup, walkR_lst, walkR_klst, x_irange1, x_irange2, x_itxt, walkT_str, x_ienum, enR_eq, x_izip, forG_nil, x_comp, compG_nil, x_cnone, x_csome, x_bm, x_dnew, wipeD_cons, wipeD_nil, s_set_, s_par_, s_unp_, s_ret_, s_retN_, s_drop_, s_ife_, s_fr_, s_brk_, s_ct_, s_pass_, s_never_, s_setIx_, s_setAttr_, s_nil_, s_cons_, bind_ok, toS_ok, seq_nx, seq_ret, seq_brk, seq_ct, loop_nx, loop_ct, loop_brk, loop_ret, toR_ret, toR_nx, bin_ints, intB_add, intB_sub, biS, toIntS, setAll, List.getElem?_cons_zero, List.getElem?_cons_succ, List.set_cons_zero, List.set_cons_succ, List.map_cons, List.map_nil, List.length_cons, List.length_nil, List.cons_append, List.nil_append, List.append_nil, List.replicate_succ, List.replicate_zero, Nat.reduceAdd, Nat.reduceSub, Nat.zero_add, Nat.reduceLeDiff, if_true, if_false, Bool.false_eq_true, decide_true, decide_false, Bool.not_true, Bool.not_false, x_eFld, x_eIs, s_raise_, s_raise0_, s_aug_, aug_add, aug_sub, s_tryA_, s_tryO_, catchA_nx, catchA_ret, catchA_brk, catchA_ct, catchO_nx, catchO_ret, catchO_brk, catchO_ct, gone_nx, gone_ret, gone_brk, gone_ct, noX_nx, noX_ret, noX_brk, noX_ct, bind_exc, toS_exc, seq_exc, loop_exc, toR_exc, eFldS, eIsS, gl0, gl1, gl2, gl3, gl4, gl5, gl6, xs0_0, xs0_1, xs0_2, xs0_3, xi1, xk1_0, ra1, xs1_0, xs1_1, xs1_2, xs1_3, xi2, xk2_0, xk2_1, ra2, xs2_0, xs2_1, xs2_2, xs2_3, mi3_19, mi3_20, mi3_21, mi3_22, mi3_23, mi3_24, mi3_25, mi3_26, mi3_27, mi3_28, mi3_29, mi3_30, mi3_31, mi3_32, mi3_33, mi3_34, mi3_35, mi3_36, mi3_37, mi3_38, mi3_39, mi3_40, mi3_41, fd3_0, fd3_1, ho3]
      | some u =>
        have cd := fun m => cd_nat (n := n + 1) (a := t) (b := u) (m := m)
        have lu := lt u rfl
        by_cases b2 : u < 2
        · have i2 : ((u : Nat) : Int) < 2 := by omega
          rw [outc_no (.inl ⟨rfl, b2⟩)]
          cases neg <;> simp only [Bool.false_eq_true, if_true, if_false] at sl <;>
            simp only [f42, b42, isi_str, sw, sl, pt, w1, w2, c_str, s_sl, optD, is_int, c_lt, dt i2, ratO, x_var, x_int, x_bl, x_str, x_non, x_glo, x_bin, x_un, x_cmp, x_cmp2, asBl_bl, x_and, x_or, x_not, x_ite, x_tup, x_lst, x_lstC, x_call, x_callK, x_mk, x_mkC, x_mkK, x_meth, x_attr, x_ix, x_bi, x_sl, x_fz, x_nil, x_cons, x_onone, asI_int, x_osome, x_tval, x_tand, x_tor, x_tnot, x_iseq, walkR_tup, walkR_lst, walkR_klst, x_irange1, x_irange2, x_itxt, walkT_str, x_ienum, enR_eq, x_izip, forG_nil, x_comp, compG_nil, x_cnone, x_csome, x_bm, x_dnew, wipeD_cons, wipeD_nil, s_set_, s_par_, s_unp_, s_ret_, s_retN_, s_drop_, s_ife_, s_fr_, s_brk_, s_ct_, s_pass_, s_never_, s_setIx_, s_setAttr_, s_nil_, s_cons_, bind_ok, toS_ok, seq_nx, seq_ret, seq_brk, seq_ct, loop_nx, loop_ct, loop_brk, loop_ret, toR_ret, toR_nx, bin_ints, intB_add, intB_sub, biS, toIntS, setAll, List.getElem?_cons_zero, List.getElem?_cons_succ, List.set_cons_zero, List.set_cons_succ, List.map_cons, List.map_nil, List.length_cons, List.length_nil, List.cons_append, List.nil_append, List.append_nil, List.replicate_succ, List.replicate_zero, Nat.reduceAdd, Nat.reduceSub, Nat.zero_add, Nat.reduceLeDiff, if_true, if_false, Bool.false_eq_true, decide_true, decide_false, Bool.not_true, Bool.not_false, x_eFld, x_eIs, s_raise_, s_raise0_, s_aug_, aug_add, aug_sub, s_tryA_, s_tryO_, catchA_nx, catchA_ret, catchA_brk, catchA_ct, catchO_nx, catchO_ret, catchO_brk, catchO_ct, gone_nx, gone_ret, gone_brk, gone_ct, noX_nx, noX_ret, noX_brk, noX_ct, bind_exc, toS_exc, seq_exc, loop_exc, toR_exc, eFldS, eIsS, gl0, gl1, gl2, gl3, gl4, gl5, gl6, xs0_0, xs0_1, xs0_2, xs0_3, xi1, xk1_0, ra1, xs1_0, xs1_1, xs1_2, xs1_3, xi2, xk2_0, xk2_1, ra2, xs2_0, xs2_1, xs2_2, xs2_3, mi3_19, mi3_20, mi3_21, mi3_22, mi3_23, mi3_24, mi3_25, mi3_26, mi3_27, mi3_28, mi3_29, mi3_30, mi3_31, mi3_32, mi3_33, mi3_34, mi3_35, mi3_36, mi3_37, mi3_38, mi3_39, mi3_40, mi3_41, fd3_0, fd3_1, ho3]
        · have i2 : ¬ ((u : Nat) : Int) < 2 := by omega
          by_cases g : Nat.gcd t u = 1
          · have one : decide ((1 : Int) = 1) = true := rfl
            rw [g] at cd
            simp only [Int.natCast_one] at cd
            cases neg with
            | true =>
              simp only [if_true] at sl
              by_cases t0 : t = 0
              · have i0 : ((t : Nat) : Int) = 0 := by omega
                rw [outc_no (.inr (.inl ⟨rfl, t0⟩))]
                simp only [f42, b42, isi_str, sw, sl, pt, w1, w2, c_str, s_sl, optD, is_int, c_lt, df i2, c_eq, dt i0, ratO, x_var, x_int, x_bl, x_str, x_non, x_glo, x_bin, x_un, x_cmp, x_cmp2, asBl_bl, x_and, x_or, x_not, x_ite, x_tup, x_lst, x_lstC, x_call, x_callK, x_mk, x_mkC, x_mkK, x_meth, x_attr, x_ix, x_bi, x_sl, x_fz, x_nil, x_cons, x_onone, asI_int, x_osome, x_tval, x_tand, x_tor, x_tnot, x_iseq, walkR_tup, walkR_lst, walkR_klst, x_irange1, x_irange2, x_itxt, walkT_str, x_ienum, enR_eq, x_izip, forG_nil, x_comp, compG_nil, x_cnone, x_csome, x_bm, x_dnew, wipeD_cons, wipeD_nil, s_set_, s_par_, s_unp_, s_ret_, s_retN_, s_drop_, s_ife_, s_fr_, s_brk_, s_ct_, s_pass_, s_never_, s_setIx_, s_setAttr_, s_nil_, s_cons_, bind_ok, toS_ok, seq_nx, seq_ret, seq_brk, seq_ct, loop_nx, loop_ct, loop_brk, loop_ret, toR_ret, toR_nx, bin_ints, intB_add, intB_sub, biS, toIntS, setAll, List.getElem?_cons_zero, List.getElem?_cons_succ, List.set_cons_zero, List.set_cons_succ, List.map_cons, List.map_nil, List.length_cons, List.length_nil, List.cons_append, List.nil_append, List.append_nil, List.replicate_succ, List.replicate_zero, Nat.reduceAdd, Nat.reduceSub, Nat.zero_add, Nat.reduceLeDiff, if_true, if_false, Bool.false_eq_true, decide_true, decide_false, Bool.not_true, Bool.not_false, x_eFld, x_eIs, s_raise_, s_raise0_, s_aug_, aug_add, aug_sub, s_tryA_, s_tryO_, catchA_nx, catchA_ret, catchA_brk, catchA_ct, catchO_nx, catchO_ret, catchO_brk, catchO_ct, gone_nx, gone_ret, gone_brk, gone_ct, noX_nx, noX_ret, noX_brk, noX_ct, bind_exc, toS_exc, seq_exc, loop_exc, toR_exc, eFldS, eIsS, gl0, gl1, gl2, gl3, gl4, gl5, gl6, xs0_0, xs0_1, xs0_2, xs0_3, xi1, xk1_0, ra1, xs1_0, xs1_1, xs1_2, xs1_3, xi2, xk2_0, xk2_1, ra2, xs2_0, xs2_1, xs2_2, xs2_3, mi3_19, mi3_20, mi3_21, mi3_22, mi3_23, mi3_24, mi3_25, mi3_26, mi3_27, mi3_28, mi3_29, mi3_30, mi3_31, mi3_32, mi3_33, mi3_34, mi3_35, mi3_36, mi3_37, mi3_38, mi3_39, mi3_40, mi3_41, fd3_0, fd3_1, ho3]
              · have i0 : ¬ ((t : Nat) : Int) = 0 := by omega
                rw [outc_ok (by simp [b2]) (by simp [t0]) g]
                have m1 := mk (-(t : Int)) t u (by simp) lu (by omega) g
                simp only [f42, b42, isi_str, sw, sl, pt, w1, w2, c_str, s_sl, optD, is_int, c_lt, df i2, c_eq, df i0, cd, c_ne, one, un_neg_int, m1, ratO, x_var, x_int, x_bl, x_str, x_non, x_glo, x_bin, x_un, x_cmp, x_cmp2, asBl_bl, x_and, x_or, x_not, x_ite, x_tup, x_lst, x_lstC, x_call, x_callK, x_mk, x_mkC, x_mkK, x_meth, x_attr, x_ix, x_bi, x_sl, x_fz, x_nil, x_cons, x_onone, asI_int, x_osome, x_tval, x_tand, x_tor, x_tnot, x_iseq, walkR_tup, walkR_lst, walkR_klst, x_irange1, x_irange2, x_itxt, walkT_str, x_ienum, enR_eq, x_izip, forG_nil, x_comp, compG_nil, x_cnone, x_csome, x_bm, x_dnew, wipeD_cons, wipeD_nil, s_set_, s_par_, s_unp_, s_ret_, s_retN_, s_drop_, s_ife_, s_fr_, s_brk_, s_ct_, s_pass_, s_never_, s_setIx_, s_setAttr_, s_nil_, s_cons_, bind_ok, toS_ok, seq_nx, seq_ret, seq_brk, seq_ct, loop_nx, loop_ct, loop_brk, loop_ret, toR_ret, toR_nx, bin_ints, intB_add, intB_sub, biS, toIntS, setAll, List.getElem?_cons_zero, List.getElem?_cons_succ, List.set_cons_zero, List.set_cons_succ, List.map_cons, List.map_nil, List.length_cons, List.length_nil, List.cons_append, List.nil_append, List.append_nil, List.replicate_succ, List.replicate_zero, Nat.reduceAdd, Nat.reduceSub, Nat.zero_add, Nat.reduceLeDiff, if_true, if_false, Bool.false_eq_true, decide_true, decide_false, Bool.not_true, Bool.not_false, x_eFld, x_eIs, s_raise_, s_raise0_, s_aug_, aug_add, aug_sub, s_tryA_, s_tryO_, catchA_nx, catchA_ret, catchA_brk, catchA_ct, catchO_nx, catchO_ret, catchO_brk, catchO_ct, gone_nx, gone_ret, gone_brk, gone_ct, noX_nx, noX_ret, noX_brk, noX_ct, bind_exc, toS_exc, seq_exc, loop_exc, toR_exc, eFldS, eIsS, gl0, gl1, gl2, gl3, gl4, gl5, gl6, xs0_0, xs0_1, xs0_2, xs0_3, xi1, xk1_0, ra1, xs1_0, xs1_1, xs1_2, xs1_3, xi2, xk2_0, xk2_1, ra2, xs2_0, xs2_1, xs2_2, xs2_3, mi3_19, mi3_20, mi3_21, mi3_22, mi3_23, mi3_24, mi3_25, mi3_26, mi3_27, mi3_28, mi3_29, mi3_30, mi3_31, mi3_32, mi3_33, mi3_34, mi3_35, mi3_36, mi3_37, mi3_38, mi3_39, mi3_40, mi3_41, fd3_0, fd3_1, ho3]
            | false =>
              simp only [Bool.false_eq_true, if_false] at sl
              rw [outc_ok (by simp [b2]) (by simp) g]
              have m1 := mk (t : Int) t u (by simp) lu (by omega) g
              simp only [f42, b42, isi_str, sw, sl, pt, w1, w2, c_str, s_sl, optD, is_int, c_lt, df i2, c_eq, cd, c_ne, one, m1, ratO, x_var, x_int, x_bl, x_str, x_non, x_glo, x_bin, x_un, x_cmp, x_cmp2, asBl_bl, x_and, x_or, x_not, x_ite, x_tup, x_lst, x_lstC, x_call, x_callK, x_mk, x_mkC, x_mkK, x_meth, x_attr, x_ix, x_bi, x_sl, x_fz, x_nil, x_cons, x_onone, asI_int, x_osome, x_tval, x_tand, x_tor, x_tnot, x_iseq, walkR_tup, walkR_lst, walkR_klst, x_irange1, x_irange2, x_itxt, walkT_str, x_ienum, enR_eq, x_izip, forG_nil, x_comp, compG_nil, x_cnone, x_csome, x_bm, x_dnew, wipeD_cons, wipeD_nil, s_set_, s_par_, s_unp_, s_ret_, s_retN_, s_drop_, s_ife_, s_fr_, s_brk_, s_ct_, s_pass_, s_never_, s_setIx_, s_setAttr_, s_nil_, s_cons_, bind_ok, toS_ok, seq_nx, seq_ret, seq_brk, seq_ct, loop_nx, loop_ct, loop_brk, loop_ret, toR_ret, toR_nx, bin_ints, intB_add, intB_sub, biS, toIntS, setAll, List.getElem?_cons_zero, List.getElem?_cons_succ, List.set_cons_zero, List.set_cons_succ, List.map_cons, List.map_nil, List.length_cons, List.length_nil, List.cons_append, List.nil_append, List.append_nil, List.replicate_succ, List.replicate_zero, Nat.reduceAdd, Nat.reduceSub, Nat.zero_add, Nat.reduceLeDiff, if_true, if_false, Bool.false_eq_true, decide_true, decide_false, Bool.not_true, Bool.not_false, x_eFld, x_eIs, s_raise_, s_raise0_, s_aug_, aug_add, aug_sub, s_tryA_, s_tryO_, catchA_nx, catchA_ret, catchA_brk, catchA_ct, catchO_nx, catchO_ret, catchO_brk, catchO_ct, gone_nx, gone_ret, gone_brk, gone_ct, noX_nx, noX_ret, noX_brk, noX_ct, bind_exc, toS_exc, seq_exc, loop_exc, toR_exc, eFldS, eIsS, gl0, gl1, gl2, gl3, gl4, gl5, gl6, xs0_0, xs0_1, xs0_2, xs0_3, xi1, xk1_0, ra1, xs1_0, xs1_1, xs1_2, xs1_3, xi2, xk2_0, xk2_1, ra2, xs2_0, xs2_1, xs2_2, xs2_3, mi3_19, mi3_20, mi3_21, mi3_22, mi3_23, mi3_24, mi3_25, mi3_26, mi3_27, mi3_28, mi3_29, mi3_30, mi3_31, mi3_32, mi3_33, mi3_34, mi3_35, mi3_36, mi3_37, mi3_38, mi3_39, mi3_40, mi3_41, fd3_0, fd3_1, ho3]
          · have ng : ¬ ((Nat.gcd t u : Nat) : Int) = 1 := by omega
            rw [outc_no (.inr (.inr g))]
            cases neg with
            | true =>
              simp only [if_true] at sl
              by_cases t0 : t = 0
              · have i0 : ((t : Nat) : Int) = 0 := by omega
                simp only [f42, b42, isi_str, sw, sl, pt, w1, w2, c_str, s_sl, optD, is_int, c_lt, df i2, c_eq, dt i0, ratO, x_var, x_int, x_bl, x_str, x_non, x_glo, x_bin, x_un, x_cmp, x_cmp2, asBl_bl, x_and, x_or, x_not, x_ite, x_tup, x_lst, x_lstC, x_call, x_callK, x_mk, x_mkC, x_mkK, x_meth, x_attr, x_ix, x_bi, x_sl, x_fz, x_nil, x_cons, x_onone, asI_int, x_osome, x_tval, x_tand, x_tor, x_tnot, x_iseq, walkR_tup, walkR_lst, walkR_klst, x_irange1, x_irange2, x_itxt, walkT_str, x_ienum, enR_eq, x_izip, forG_nil, x_comp, compG_nil, x_cnone, x_csome, x_bm, x_dnew, wipeD_cons, wipeD_nil, s_set_, s_par_, s_unp_, s_ret_, s_retN_, s_drop_, s_ife_, s_fr_, s_brk_, s_ct_, s_pass_, s_never_, s_setIx_, s_setAttr_, s_nil_, s_cons_, bind_ok, toS_ok, seq_nx, seq_ret, seq_brk, seq_ct, loop_nx, loop_ct, loop_brk, loop_ret, toR_ret, toR_nx, bin_ints, intB_add, intB_sub, biS, toIntS, setAll, List.getElem?_cons_zero, List.getElem?_cons_succ, List.set_cons_zero, List.set_cons_succ, List.map_cons, List.map_nil, List.length_cons, List.length_nil, List.cons_append, List.nil_append, List.append_nil, List.replicate_succ, List.replicate_zero, Nat.reduceAdd, Nat.reduceSub, Nat.zero_add, Nat.reduceLeDiff, if_true, if_false, Bool.false_eq_true, decide_true, decide_false, Bool.not_true, Bool.not_false, x_eFld, x_eIs, s_raise_, s_raise0_, s_aug_, aug_add, aug_sub, s_tryA_, s_tryO_, catchA_nx, catchA_ret, catchA_brk, catchA_ct, catchO_nx, catchO_ret, catchO_brk, catchO_ct, gone_nx, gone_ret, gone_brk, gone_ct, noX_nx, noX_ret, noX_brk, noX_ct, bind_exc, toS_exc, seq_exc, loop_exc, toR_exc, eFldS, eIsS, gl0, gl1, gl2, gl3, gl4, gl5, gl6, xs0_0, xs0_1, xs0_2, xs0_3, xi1, xk1_0, ra1, xs1_0, xs1_1, xs1_2, xs1_3, xi2, xk2_0, xk2_1, ra2, xs2_0, xs2_1, xs2_2, xs2_3, mi3_19, mi3_20, mi3_21, mi3_22, mi3_23, mi3_24, mi3_25, mi3_26, mi3_27, mi3_28, mi3_29, mi3_30, mi3_31, mi3_32, mi3_33, mi3_34, mi3_35, mi3_36, mi3_37, mi3_38, mi3_39, mi3_40, mi3_41, fd3_0, fd3_1, ho3]
              · have i0 : ¬ ((t : Nat) : Int) = 0 := by omega
                simp only [f42, b42, isi_str, sw, sl, pt, w1, w2, c_str, s_sl, optD, is_int, c_lt, df i2, c_eq, df i0, cd, c_ne, df ng, ratO, x_var, x_int, x_bl, x_str, x_non, x_glo, x_bin, x_un, x_cmp, x_cmp2, asBl_bl, x_and, x_or, x_not, x_ite, x_tup, x_lst, x_lstC, x_call, x_callK, x_mk, x_mkC, x_mkK, x_meth, x_attr, x_ix, x_bi, x_sl, x_fz, x_nil, x_cons, x_onone, asI_int, x_osome, x_tval, x_tand, x_tor, x_tnot, x_iseq, walkR_tup, walkR_lst, walkR_klst, x_irange1, x_irange2, x_itxt, walkT_str, x_ienum, enR_eq, x_izip, forG_nil, x_comp, compG_nil, x_cnone, x_csome, x_bm, x_dnew, wipeD_cons, wipeD_nil, s_set_, s_par_, s_unp_, s_ret_, s_retN_, s_drop_, s_ife_, s_fr_, s_brk_, s_ct_, s_pass_, s_never_, s_setIx_, s_setAttr_, s_nil_, s_cons_, bind_ok, toS_ok, seq_nx, seq_ret, seq_brk, seq_ct, loop_nx, loop_ct, loop_brk, loop_ret, toR_ret, toR_nx, bin_ints, intB_add, intB_sub, biS, toIntS, setAll, List.getElem?_cons_zero, List.getElem?_cons_succ, List.set_cons_zero, List.set_cons_succ, List.map_cons, List.map_nil, List.length_cons, List.length_nil, List.cons_append, List.nil_append, List.append_nil, List.replicate_succ, List.replicate_zero, Nat.reduceAdd, Nat.reduceSub, Nat.zero_add, Nat.reduceLeDiff, if_true, if_false, Bool.false_eq_true, decide_true, decide_false, Bool.not_true, Bool.not_false, x_eFld, x_eIs, s_raise_, s_raise0_, s_aug_, aug_add, aug_sub, s_tryA_, s_tryO_, catchA_nx, catchA_ret, catchA_brk, catchA_ct, catchO_nx, catchO_ret, catchO_brk, catchO_ct, gone_nx, gone_ret, gone_brk, gone_ct, noX_nx, noX_ret, noX_brk, noX_ct, bind_exc, toS_exc, seq_exc, loop_exc, toR_exc, eFldS, eIsS, gl0, gl1, gl2, gl3, gl4, gl5, gl6, xs0_0, xs0_1, xs0_2, xs0_3, xi1, xk1_0, ra1, xs1_0, xs1_1, xs1_2, xs1_3, xi2, xk2_0, xk2_1, ra2, xs2_0, xs2_1, xs2_2, xs2_3, mi3_19, mi3_20, mi3_21, mi3_22, mi3_23, mi3_24, mi3_25, mi3_26, mi3_27, mi3_28, mi3_29, mi3_30, mi3_31, mi3_32, mi3_33, mi3_34, mi3_35, mi3_36, mi3_37, mi3_38, mi3_39, mi3_40, mi3_41, fd3_0, fd3_1, ho3]
            | false =>
              simp only [Bool.false_eq_true, if_false] at sl
              simp only [f42, b42, isi_str, sw, sl, pt, w1, w2, c_str, s_sl, optD, is_int, c_lt, df i2, c_eq, cd, c_ne, df ng, ratO, x_var, x_int, x_bl, x_str, x_non, x_glo, x_bin, x_un, x_cmp, x_cmp2, asBl_bl, x_and, x_or, x_not, x_ite, x_tup, x_lst, x_lstC, x_call, x_callK, x_mk, x_mkC, x_mkK, x_meth, x_attr, x_ix, x_bi, x_sl, x_fz, x_nil, x_cons, x_onone, asI_int, x_osome, x_tval, x_tand, x_tor, x_tnot, x_iseq, walkR_tup, walkR_lst, walkR_klst, x_irange1, x_irange2, x_itxt, walkT_str, x_ienum, enR_eq, x_izip, forG_nil, x_comp, compG_nil, x_cnone, x_csome, x_bm, x_dnew, wipeD_cons, wipeD_nil, s_set_, s_par_, s_unp_, s_ret_, s_retN_, s_drop_, s_ife_, s_fr_, s_brk_, s_ct_, s_pass_, s_never_, s_setIx_, s_setAttr_, s_nil_, s_cons_, bind_ok, toS_ok, seq_nx, seq_ret, seq_brk, seq_ct, loop_nx, loop_ct, loop_brk, loop_ret, toR_ret, toR_nx, bin_ints, intB_add, intB_sub, biS, toIntS, setAll, List.getElem?_cons_zero, List.getElem?_cons_succ, List.set_cons_zero, List.set_cons_succ, List.map_cons, List.map_nil, List.length_cons, List.length_nil, List.cons_append, List.nil_append, List.append_nil, List.replicate_succ, List.replicate_zero, Nat.reduceAdd, Nat.reduceSub, Nat.zero_add, Nat.reduceLeDiff, if_true, if_false, Bool.false_eq_true, decide_true, decide_false, Bool.not_true, Bool.not_false, x_eFld, x_eIs, s_raise_, s_raise0_, s_aug_, aug_add, aug_sub, s_tryA_, s_tryO_, catchA_nx, catchA_ret, catchA_brk, catchA_ct, catchO_nx, catchO_ret, catchO_brk, catchO_ct, gone_nx, gone_ret, gone_brk, gone_ct, noX_nx, noX_ret, noX_brk, noX_ct, bind_exc, toS_exc, seq_exc, loop_exc, toR_exc, eFldS, eIsS, gl0, gl1, gl2, gl3, gl4, gl5, gl6, xs0_0, xs0_1, xs0_2, xs0_3, xi1, xk1_0, ra1, xs1_0, xs1_1, xs1_2, xs1_3, xi2, xk2_0, xk2_1, ra2, xs2_0, xs2_1, xs2_2, xs2_3, mi3_19, mi3_20, mi3_21, mi3_22, mi3_23, mi3_24, mi3_25, mi3_26, mi3_27, mi3_28, mi3_29, mi3_30, mi3_31, mi3_32, mi3_33, mi3_34, mi3_35, mi3_36, mi3_37, mi3_38, mi3_39, mi3_40, mi3_41, fd3_0, fd3_1, ho3]
theorem ix_l0 {d : D} {ds : List D} {m : Mu} : ixF (.lst (d :: ds)) (.int 0) m = .ok d m := by
  have i : ixN (d :: ds).length 0 = some 0 := by
    unfold ixN
    simp
  have a : atI (d :: ds) 0 = some d := by
    unfold atI
    rw [i]
    rfl
  simp only [ixF, ixD, seqOf, a]
theorem ix_l1 {d e : D} {ds : List D} {m : Mu} : ixF (.lst (d :: e :: ds)) (.int 1) m = .ok e m := by
  have i : ixN (d :: e :: ds).length 1 = some 1 := by
    unfold ixN
    rw [if_pos (by decide), if_pos (by simp only [List.length_cons]; omega)]
    rfl
  have a : atI (d :: e :: ds) 1 = some e := by
    unfold atI
    rw [i]
    rfl
  simp only [ixF, ixD, seqOf, a]
theorem len_l {ds : List D} {m : Mu} : lenS (.lst ds) m = .ok (.int (ds.length : Nat)) m := rfl
theorem due_ok {n : Nat} {z : Str} {o : Option (Int × Int)} {μ : Mu} (hz : z.length ≤ 999990) (h : outZ z o) : runS S (n + 2) 13 [.str z] μ = .ok (dueO o) μ := by
  have bl := bd_len z
  have sl := sl_str (z := z) (b := false) (lo := none) (hi := some 1) (m := μ) (by omega)
  have fd := first_dash z
  have s2 := fun (h : ngS z = true) => by
    have q := sl_str (z := z) (b := false) (lo := some 1) (hi := none) (m := μ) (by omega)
    rw [cut_1 z h] at q
    exact q
  have sp := fun x2 => sp_ok (z := bdS z) (m := μ) (args := semA S (runS S (n + 1)) (.cons (.str "/") .nil) [some (.str z), some (.str (bdS z)), x2, none, none, none]) (by omega) (by simp only [x_var, x_int, x_bl, x_str, x_non, x_glo, x_bin, x_un, x_cmp, x_cmp2, asBl_bl, x_and, x_or, x_not, x_ite, x_tup, x_lst, x_lstC, x_call, x_callK, x_mk, x_mkC, x_mkK, x_meth, x_attr, x_ix, x_bi, x_sl, x_fz, x_nil, x_cons, x_onone, asI_int, x_osome, x_tval, x_tand, x_tor, x_tnot, x_iseq, walkR_tup, walkR_lst, walkR_klst, x_irange1, x_irange2, x_itxt, walkT_str, x_ienum, enR_eq, x_izip, forG_nil, x_comp, compG_nil, x_cnone, x_csome, x_bm, x_dnew, wipeD_cons, wipeD_nil, s_set_, s_par_, s_unp_, s_ret_, s_retN_, s_drop_, s_ife_, s_fr_, s_brk_, s_ct_, s_pass_, s_never_, s_setIx_, s_setAttr_, s_nil_, s_cons_, bind_ok, toS_ok, seq_nx, seq_ret, seq_brk, seq_ct, loop_nx, loop_ct, loop_brk, loop_ret, toR_ret, toR_nx, bin_ints, intB_add, intB_sub, biS, toIntS, setAll, List.getElem?_cons_zero, List.getElem?_cons_succ, List.set_cons_zero, List.set_cons_succ, List.map_cons, List.map_nil, List.length_cons, List.length_nil, List.cons_append, List.nil_append, List.append_nil, List.replicate_succ, List.replicate_zero, Nat.reduceAdd, Nat.reduceSub, Nat.zero_add, Nat.reduceLeDiff, if_true, if_false, Bool.false_eq_true, decide_true, decide_false, Bool.not_true, Bool.not_false, x_eFld, x_eIs, s_raise_, s_raise0_, s_aug_, aug_add, aug_sub, s_tryA_, s_tryO_, catchA_nx, catchA_ret, catchA_brk, catchA_ct, catchO_nx, catchO_ret, catchO_brk, catchO_ct, gone_nx, gone_ret, gone_brk, gone_ct, noX_nx, noX_ret, noX_brk, noX_ct, bind_exc, toS_exc, seq_exc, loop_exc, toR_exc, eFldS, eIsS, gl0, gl1, gl2, gl3, gl4, gl5, gl6, xs0_0, xs0_1, xs0_2, xs0_3, xi1, xk1_0, ra1, xs1_0, xs1_1, xs1_2, xs1_3, xi2, xk2_0, xk2_1, ra2, xs2_0, xs2_1, xs2_2, xs2_3, mi3_19, mi3_20, mi3_21, mi3_22, mi3_23, mi3_24, mi3_25, mi3_26, mi3_27, mi3_28, mi3_29, mi3_30, mi3_31, mi3_32, mi3_33, mi3_34, mi3_35, mi3_36, mi3_37, mi3_38, mi3_39, mi3_40, mi3_41, fd3_0, fd3_1, ho3])
  have pos := fun (h : ngS z = false) => bd_pos h
  rw [run_raw (fi := f13) rfl rfl rfl]
  have k1 : ((0 + 1 : Nat) : Int) = 1 := rfl
  have k2 : ((0 + 1 + 1 : Nat) : Int) = 2 := rfl
  have c1 : decide ((2 : Int) < 1) = false := rfl
  have c2 : decide ((2 : Int) < 2) = false := rfl
  have c3 : decide ((1 : Int) = 2) = false := rfl
  have c4 : decide ((2 : Int) = 2) = true := rfl
  have c5 : decide ((-1 : Int) < 0) = true := rfl
  have c6 : decide ((-1 : Int) < 2) = true := rfl
  have one : decide ((1 : Int) = 1) = true := rfl
  generalize cutS z none (some 1) = f at *
  rcases h with ⟨h, rfl⟩ | ⟨a, b, h, e, rfl⟩
  · have w1 := lw_ok (n := n) (z := bdS z) (μ := μ) (by omega)
    have lt := fun k (h : wZ (bdS z) = some k) => wZ_lt h
    rw [sp_one h] at sp
    generalize wZ (bdS z) = t at *
    cases ng : ngS z with
    | true =>
      rw [ng] at fd
      have s2 := s2 ng
      generalize bdS z = y at *
      cases t with
      | none =>
        simp only [f13, b13, sl, c_str, fd, s2, sp, List.map_cons, List.map_nil, len_l, List.length_cons, List.length_nil, k1, c_gt, c1, ix_l0, w1, c_eq, c3, optI, c_lt, c5, dueO, outc, x_var, x_int, x_bl, x_str, x_non, x_glo, x_bin, x_un, x_cmp, x_cmp2, asBl_bl, x_and, x_or, x_not, x_ite, x_tup, x_lst, x_lstC, x_call, x_callK, x_mk, x_mkC, x_mkK, x_meth, x_attr, x_ix, x_bi, x_sl, x_fz, x_nil, x_cons, x_onone, asI_int, x_osome, x_tval, x_tand, x_tor, x_tnot, x_iseq, walkR_tup, walkR_lst, walkR_klst, x_irange1, x_irange2, x_itxt, walkT_str, x_ienum, enR_eq, x_izip, forG_nil, x_comp, compG_nil, x_cnone, x_csome, x_bm, x_dnew, wipeD_cons, wipeD_nil, s_set_, s_par_, s_unp_, s_ret_, s_retN_, s_drop_, s_ife_, s_fr_, s_brk_, s_ct_, s_pass_, s_never_, s_setIx_, s_setAttr_, s_nil_, s_cons_, bind_ok, toS_ok, seq_nx, seq_ret, seq_brk, seq_ct, loop_nx, loop_ct, loop_brk, loop_ret, toR_ret, toR_nx, bin_ints, intB_add, intB_sub, biS, toIntS, setAll, List.getElem?_cons_zero, List.getElem?_cons_succ, List.set_cons_zero, List.set_cons_succ, List.map_cons, List.map_nil, List.length_cons, List.length_nil, List.cons_append, List.nil_append, List.append_nil, List.replicate_succ, List.replicate_zero, Nat.reduceAdd, Nat.reduceSub, Nat.zero_add, Nat.reduceLeDiff, if_true, if_false, Bool.false_eq_true, decide_true, decide_false, Bool.not_true, Bool.not_false, x_eFld, x_eIs, s_raise_, s_raise0_, s_aug_, aug_add, aug_sub, s_tryA_, s_tryO_, catchA_nx, catchA_ret, catchA_brk, catchA_ct, catchO_nx, catchO_ret, catchO_brk, catchO_ct, gone_nx, gone_ret, gone_brk, gone_ct, noX_nx, noX_ret, noX_brk, noX_ct, bind_exc, toS_exc, seq_exc, loop_exc, toR_exc, eFldS, eIsS, gl0, gl1, gl2, gl3, gl4, gl5, gl6, xs0_0, xs0_1, xs0_2, xs0_3, xi1, xk1_0, ra1, xs1_0, xs1_1, xs1_2, xs1_3, xi2, xk2_0, xk2_1, ra2, xs2_0, xs2_1, xs2_2, xs2_3, mi3_19, mi3_20, mi3_21, mi3_22, mi3_23, mi3_24, mi3_25, mi3_26, mi3_27, mi3_28, mi3_29, mi3_30, mi3_31, mi3_32, mi3_33, mi3_34, mi3_35, mi3_36, mi3_37, mi3_38, mi3_39, mi3_40, mi3_41, fd3_0, fd3_1, ho3]
      | some t =>
        have lt := lt t rfl
        have sh := sh_ok (n := n) (a := t) (b := 1) (μ := μ) lt one_lt
        rw [Nat.gcd_one_right] at sh
        simp only [Int.natCast_one] at sh
        have nn : ¬ ((t : Nat) : Int) < 0 := by omega
        by_cases t0 : t = 0
        · have i0 : ((t : Nat) : Int) = 0 := by omega
          rw [outc_no (.inr (.inl ⟨rfl, t0⟩))]
          simp only [f13, b13, sl, c_str, fd, s2, sp, List.map_cons, List.map_nil, len_l, List.length_cons, List.length_nil, k1, c_gt, c1, ix_l0, w1, c_eq, c3, optI, c_lt, df nn, dt i0, dueO, x_var, x_int, x_bl, x_str, x_non, x_glo, x_bin, x_un, x_cmp, x_cmp2, asBl_bl, x_and, x_or, x_not, x_ite, x_tup, x_lst, x_lstC, x_call, x_callK, x_mk, x_mkC, x_mkK, x_meth, x_attr, x_ix, x_bi, x_sl, x_fz, x_nil, x_cons, x_onone, asI_int, x_osome, x_tval, x_tand, x_tor, x_tnot, x_iseq, walkR_tup, walkR_lst, walkR_klst, x_irange1, x_irange2, x_itxt, walkT_str, x_ienum, enR_eq, x_izip, forG_nil, x_comp, compG_nil, x_cnone, x_csome, x_bm, x_dnew, wipeD_cons, wipeD_nil, s_set_, s_par_, s_unp_, s_ret_, s_retN_, s_drop_, s_ife_, s_fr_, s_brk_, s_ct_, s_pass_, s_never_, s_setIx_, s_setAttr_, s_nil_, s_cons_, bind_ok, toS_ok, seq_nx, seq_ret, seq_brk, seq_ct, loop_nx, loop_ct, loop_brk, loop_ret, toR_ret, toR_nx, bin_ints, intB_add, intB_sub, biS, toIntS, setAll, List.getElem?_cons_zero, List.getElem?_cons_succ, List.set_cons_zero, List.set_cons_succ, List.map_cons, List.map_nil, List.length_cons, List.length_nil, List.cons_append, List.nil_append, List.append_nil, List.replicate_succ, List.replicate_zero, Nat.reduceAdd, Nat.reduceSub, Nat.zero_add, Nat.reduceLeDiff, if_true, if_false, Bool.false_eq_true, decide_true, decide_false, Bool.not_true, Bool.not_false, x_eFld, x_eIs, s_raise_, s_raise0_, s_aug_, aug_add, aug_sub, s_tryA_, s_tryO_, catchA_nx, catchA_ret, catchA_brk, catchA_ct, catchO_nx, catchO_ret, catchO_brk, catchO_ct, gone_nx, gone_ret, gone_brk, gone_ct, noX_nx, noX_ret, noX_brk, noX_ct, bind_exc, toS_exc, seq_exc, loop_exc, toR_exc, eFldS, eIsS, gl0, gl1, gl2, gl3, gl4, gl5, gl6, xs0_0, xs0_1, xs0_2, xs0_3, xi1, xk1_0, ra1, xs1_0, xs1_1, xs1_2, xs1_3, xi2, xk2_0, xk2_1, ra2, xs2_0, xs2_1, xs2_2, xs2_3, mi3_19, mi3_20, mi3_21, mi3_22, mi3_23, mi3_24, mi3_25, mi3_26, mi3_27, mi3_28, mi3_29, mi3_30, mi3_31, mi3_32, mi3_33, mi3_34, mi3_35, mi3_36, mi3_37, mi3_38, mi3_39, mi3_40, mi3_41, fd3_0, fd3_1, ho3]
        · have i0 : ¬ ((t : Nat) : Int) = 0 := by omega
          rw [outc_ok (by simp) (by simp [t0]) (Nat.gcd_one_right t)]
          simp only [f13, b13, sl, c_str, fd, s2, sp, List.map_cons, List.map_nil, len_l, List.length_cons, List.length_nil, k1, c_gt, c1, ix_l0, w1, c_eq, c3, optI, c_lt, df nn, df i0, sh, c_ne, one, un_neg_int, dueO, x_var, x_int, x_bl, x_str, x_non, x_glo, x_bin, x_un, x_cmp, x_cmp2, asBl_bl, x_and, x_or, x_not, x_ite, x_tup, x_lst, x_lstC, x_call, x_callK, x_mk, x_mkC, x_mkK, x_meth, x_attr, x_ix, x_bi, x_sl, x_fz, x_nil, x_cons, x_onone, asI_int, x_osome, x_tval, x_tand, x_tor, x_tnot, x_iseq, walkR_tup, walkR_lst, walkR_klst, x_irange1, x_irange2, x_itxt, walkT_str, x_ienum, enR_eq, x_izip, forG_nil, x_comp, compG_nil, x_cnone, x_csome, x_bm, x_dnew, wipeD_cons, wipeD_nil, s_set_, s_par_, s_unp_, s_ret_, s_retN_, s_drop_, s_ife_, s_fr_, s_brk_, s_ct_, s_pass_, s_never_, s_setIx_, s_setAttr_, s_nil_, s_cons_, bind_ok, toS_ok, seq_nx, seq_ret, seq_brk, seq_ct, loop_nx, loop_ct, loop_brk, loop_ret, toR_ret, toR_nx, bin_ints, intB_add, intB_sub, biS, toIntS, setAll, List.getElem?_cons_zero, List.getElem?_cons_succ, List.set_cons_zero, List.set_cons_succ, List.map_cons, List.map_nil, List.length_cons, List.length_nil, List.cons_append, List.nil_append, List.append_nil, List.replicate_succ, List.replicate_zero, Nat.reduceAdd, Nat.reduceSub, Nat.zero_add, Nat.reduceLeDiff, if_true, if_false, Bool.false_eq_true, decide_true, decide_false, Bool.not_true, Bool.not_false, x_eFld, x_eIs, s_raise_, s_raise0_, s_aug_, aug_add, aug_sub, s_tryA_, s_tryO_, catchA_nx, catchA_ret, catchA_brk, catchA_ct, catchO_nx, catchO_ret, catchO_brk, catchO_ct, gone_nx, gone_ret, gone_brk, gone_ct, noX_nx, noX_ret, noX_brk, noX_ct, bind_exc, toS_exc, seq_exc, loop_exc, toR_exc, eFldS, eIsS, gl0, gl1, gl2, gl3, gl4, gl5, gl6, xs0_0, xs0_1, xs0_2, xs0_3, xi1, xk1_0, ra1, xs1_0, xs1_1, xs1_2, xs1_3, xi2, xk2_0, xk2_1, ra2, xs2_0, xs2_1, xs2_2, xs2_3, mi3_19, mi3_20, mi3_21, mi3_22, mi3_23, mi3_24, mi3_25, mi3_26, mi3_27, mi3_28, mi3_29, mi3_30, mi3_31, mi3_32, mi3_33, mi3_34, mi3_35, mi3_36, mi3_37, mi3_38, mi3_39, mi3_40, mi3_41, fd3_0, fd3_1, ho3]
    | false =>
      rw [ng] at fd
      rw [pos ng] at sp w1
      cases t with
      | none =>
        simp only [f13, b13, sl, c_str, fd, sp, List.map_cons, List.map_nil, len_l, List.length_cons, List.length_nil, k1, c_gt, c1, ix_l0, w1, c_eq, c3, optI, c_lt, c5, dueO, outc, x_var, x_int, x_bl, x_str, x_non, x_glo, x_bin, x_un, x_cmp, x_cmp2, asBl_bl, x_and, x_or, x_not, x_ite, x_tup, x_lst, x_lstC, x_call, x_callK, x_mk, x_mkC, x_mkK, x_meth, x_attr, x_ix, x_bi, x_sl, x_fz, x_nil, x_cons, x_onone, asI_int, x_osome, x_tval, x_tand, x_tor, x_tnot, x_iseq, walkR_tup, walkR_lst, walkR_klst, x_irange1, x_irange2, x_itxt, walkT_str, x_ienum, enR_eq, x_izip, forG_nil, x_comp, compG_nil, x_cnone, x_csome, x_bm, x_dnew, wipeD_cons, wipeD_nil, s_set_, s_par_, s_unp_, s_ret_, s_retN_, s_drop_, s_ife_, s_fr_, s_brk_, s_ct_, s_pass_, s_never_, s_setIx_, s_setAttr_, s_nil_, s_cons_, bind_ok, toS_ok, seq_nx, seq_ret, seq_brk, seq_ct, loop_nx, loop_ct, loop_brk, loop_ret, toR_ret, toR_nx, bin_ints, intB_add, intB_sub, biS, toIntS, setAll, List.getElem?_cons_zero, List.getElem?_cons_succ, List.set_cons_zero, List.set_cons_succ, List.map_cons, List.map_nil, List.length_cons, List.length_nil, List.cons_append, List.nil_append, List.append_nil, List.replicate_succ, List.replicate_zero, Nat.reduceAdd, Nat.reduceSub, Nat.zero_add, Nat.reduceLeDiff, if_true, if_false, Bool.false_eq_true, decide_true, decide_false, Bool.not_true, Bool.not_false, x_eFld, x_eIs, s_raise_, s_raise0_, s_aug_, aug_add, aug_sub, s_tryA_, s_tryO_, catchA_nx, catchA_ret, catchA_brk, catchA_ct, catchO_nx, catchO_ret, catchO_brk, catchO_ct, gone_nx, gone_ret, gone_brk, gone_ct, noX_nx, noX_ret, noX_brk, noX_ct, bind_exc, toS_exc, seq_exc, loop_exc, toR_exc, eFldS, eIsS, gl0, gl1, gl2, gl3, gl4, gl5, gl6, xs0_0, xs0_1, xs0_2, xs0_3, xi1, xk1_0, ra1, xs1_0, xs1_1, xs1_2, xs1_3, xi2, xk2_0, xk2_1, ra2, xs2_0, xs2_1, xs2_2, xs2_3, mi3_19, mi3_20, mi3_21, mi3_22, mi3_23, mi3_24, mi3_25, mi3_26, mi3_27, mi3_28, mi3_29, mi3_30, mi3_31, mi3_32, mi3_33, mi3_34, mi3_35, mi3_36, mi3_37, mi3_38, mi3_39, mi3_40, mi3_41, fd3_0, fd3_1, ho3]
      | some t =>
        have lt := lt t rfl
        have sh := sh_ok (n := n) (a := t) (b := 1) (μ := μ) lt one_lt
        rw [Nat.gcd_one_right] at sh
        simp only [Int.natCast_one] at sh
        have nn : ¬ ((t : Nat) : Int) < 0 := by omega
        rw [outc_ok (by simp) (by simp) (Nat.gcd_one_right t)]
        simp only [f13, b13, sl, c_str, fd, sp, List.map_cons, List.map_nil, len_l, List.length_cons, List.length_nil, k1, c_gt, c1, ix_l0, w1, c_eq, c3, optI, c_lt, df nn, sh, c_ne, one, dueO, x_var, x_int, x_bl, x_str, x_non, x_glo, x_bin, x_un, x_cmp, x_cmp2, asBl_bl, x_and, x_or, x_not, x_ite, x_tup, x_lst, x_lstC, x_call, x_callK, x_mk, x_mkC, x_mkK, x_meth, x_attr, x_ix, x_bi, x_sl, x_fz, x_nil, x_cons, x_onone, asI_int, x_osome, x_tval, x_tand, x_tor, x_tnot, x_iseq, walkR_tup, walkR_lst, walkR_klst, x_irange1, x_irange2, x_itxt, walkT_str, x_ienum, enR_eq, x_izip, forG_nil, x_comp, compG_nil, x_cnone, x_csome, x_bm, x_dnew, wipeD_cons, wipeD_nil, s_set_, s_par_, s_unp_, s_ret_, s_retN_, s_drop_, s_ife_, s_fr_, s_brk_, s_ct_, s_pass_, s_never_, s_setIx_, s_setAttr_, s_nil_, s_cons_, bind_ok, toS_ok, seq_nx, seq_ret, seq_brk, seq_ct, loop_nx, loop_ct, loop_brk, loop_ret, toR_ret, toR_nx, bin_ints, intB_add, intB_sub, biS, toIntS, setAll, List.getElem?_cons_zero, List.getElem?_cons_succ, List.set_cons_zero, List.set_cons_succ, List.map_cons, List.map_nil, List.length_cons, List.length_nil, List.cons_append, List.nil_append, List.append_nil, List.replicate_succ, List.replicate_zero, Nat.reduceAdd, Nat.reduceSub, Nat.zero_add, Nat.reduceLeDiff, if_true, if_false, Bool.false_eq_true, decide_true, decide_false, Bool.not_true, Bool.not_false, x_eFld, x_eIs, s_raise_, s_raise0_, s_aug_, aug_add, aug_sub, s_tryA_, s_tryO_, catchA_nx, catchA_ret, catchA_brk, catchA_ct, catchO_nx, catchO_ret, catchO_brk, catchO_ct, gone_nx, gone_ret, gone_brk, gone_ct, noX_nx, noX_ret, noX_brk, noX_ct, bind_exc, toS_exc, seq_exc, loop_exc, toR_exc, eFldS, eIsS, gl0, gl1, gl2, gl3, gl4, gl5, gl6, xs0_0, xs0_1, xs0_2, xs0_3, xi1, xk1_0, ra1, xs1_0, xs1_1, xs1_2, xs1_3, xi2, xk2_0, xk2_1, ra2, xs2_0, xs2_1, xs2_2, xs2_3, mi3_19, mi3_20, mi3_21, mi3_22, mi3_23, mi3_24, mi3_25, mi3_26, mi3_27, mi3_28, mi3_29, mi3_30, mi3_31, mi3_32, mi3_33, mi3_34, mi3_35, mi3_36, mi3_37, mi3_38, mi3_39, mi3_40, mi3_41, fd3_0, fd3_1, ho3]
  · have la : a.length + 1 + b.length ≤ 999990 := by
      have q := bl
      rw [e, app_len, app_len] at q
      have : ("/" : Str).length = 1 := by decide +kernel
      omega
    rw [e] at s2 pos
    rw [e, sp_two h] at sp
    by_cases hb : 47 ∈ TL.tl b
    · have l2 := sp_mem hb
      have l3 : (2 : Int) < (((Txt.split b "/").length + 1 : Nat) : Int) := by omega
      have on : outc (ngS z) (wZ a) (wZ b) true = none := by
        rw [wZ_slash hb]
        cases wZ a <;> rfl
      rw [on]
      cases ng : ngS z with
      | true =>
        rw [ng] at fd
        have s2 := s2 ng
        generalize a ++ "/" ++ b = y at *
        simp only [f13, b13, sl, c_str, fd, s2, sp, List.map_cons, len_l, List.length_cons, List.length_map, c_gt, dt l3, dueO, x_var, x_int, x_bl, x_str, x_non, x_glo, x_bin, x_un, x_cmp, x_cmp2, asBl_bl, x_and, x_or, x_not, x_ite, x_tup, x_lst, x_lstC, x_call, x_callK, x_mk, x_mkC, x_mkK, x_meth, x_attr, x_ix, x_bi, x_sl, x_fz, x_nil, x_cons, x_onone, asI_int, x_osome, x_tval, x_tand, x_tor, x_tnot, x_iseq, walkR_tup, walkR_lst, walkR_klst, x_irange1, x_irange2, x_itxt, walkT_str, x_ienum, enR_eq, x_izip, forG_nil, x_comp, compG_nil, x_cnone, x_csome, x_bm, x_dnew, wipeD_cons, wipeD_nil, s_set_, s_par_, s_unp_, s_ret_, s_retN_, s_drop_, s_ife_, s_fr_, s_brk_, s_ct_, s_pass_, s_never_, s_setIx_, s_setAttr_, s_nil_, s_cons_, bind_ok, toS_ok, seq_nx, seq_ret, seq_brk, seq_ct, loop_nx, loop_ct, loop_brk, loop_ret, toR_ret, toR_nx, bin_ints, intB_add, intB_sub, biS, toIntS, setAll, List.getElem?_cons_zero, List.getElem?_cons_succ, List.set_cons_zero, List.set_cons_succ, List.map_cons, List.map_nil, List.length_cons, List.length_nil, List.cons_append, List.nil_append, List.append_nil, List.replicate_succ, List.replicate_zero, Nat.reduceAdd, Nat.reduceSub, Nat.zero_add, Nat.reduceLeDiff, if_true, if_false, Bool.false_eq_true, decide_true, decide_false, Bool.not_true, Bool.not_false, x_eFld, x_eIs, s_raise_, s_raise0_, s_aug_, aug_add, aug_sub, s_tryA_, s_tryO_, catchA_nx, catchA_ret, catchA_brk, catchA_ct, catchO_nx, catchO_ret, catchO_brk, catchO_ct, gone_nx, gone_ret, gone_brk, gone_ct, noX_nx, noX_ret, noX_brk, noX_ct, bind_exc, toS_exc, seq_exc, loop_exc, toR_exc, eFldS, eIsS, gl0, gl1, gl2, gl3, gl4, gl5, gl6, xs0_0, xs0_1, xs0_2, xs0_3, xi1, xk1_0, ra1, xs1_0, xs1_1, xs1_2, xs1_3, xi2, xk2_0, xk2_1, ra2, xs2_0, xs2_1, xs2_2, xs2_3, mi3_19, mi3_20, mi3_21, mi3_22, mi3_23, mi3_24, mi3_25, mi3_26, mi3_27, mi3_28, mi3_29, mi3_30, mi3_31, mi3_32, mi3_33, mi3_34, mi3_35, mi3_36, mi3_37, mi3_38, mi3_39, mi3_40, mi3_41, fd3_0, fd3_1, ho3]
      | false =>
        rw [ng] at fd
        rw [pos ng] at sp
        simp only [f13, b13, sl, c_str, fd, sp, List.map_cons, len_l, List.length_cons, List.length_map, c_gt, dt l3, dueO, x_var, x_int, x_bl, x_str, x_non, x_glo, x_bin, x_un, x_cmp, x_cmp2, asBl_bl, x_and, x_or, x_not, x_ite, x_tup, x_lst, x_lstC, x_call, x_callK, x_mk, x_mkC, x_mkK, x_meth, x_attr, x_ix, x_bi, x_sl, x_fz, x_nil, x_cons, x_onone, asI_int, x_osome, x_tval, x_tand, x_tor, x_tnot, x_iseq, walkR_tup, walkR_lst, walkR_klst, x_irange1, x_irange2, x_itxt, walkT_str, x_ienum, enR_eq, x_izip, forG_nil, x_comp, compG_nil, x_cnone, x_csome, x_bm, x_dnew, wipeD_cons, wipeD_nil, s_set_, s_par_, s_unp_, s_ret_, s_retN_, s_drop_, s_ife_, s_fr_, s_brk_, s_ct_, s_pass_, s_never_, s_setIx_, s_setAttr_, s_nil_, s_cons_, bind_ok, toS_ok, seq_nx, seq_ret, seq_brk, seq_ct, loop_nx, loop_ct, loop_brk, loop_ret, toR_ret, toR_nx, bin_ints, intB_add, intB_sub, biS, toIntS, setAll, List.getElem?_cons_zero, List.getElem?_cons_succ, List.set_cons_zero, List.set_cons_succ, List.map_cons, List.map_nil, List.length_cons, List.length_nil, List.cons_append, List.nil_append, List.append_nil, List.replicate_succ, List.replicate_zero, Nat.reduceAdd, Nat.reduceSub, Nat.zero_add, Nat.reduceLeDiff, if_true, if_false, Bool.false_eq_true, decide_true, decide_false, Bool.not_true, Bool.not_false, x_eFld, x_eIs, s_raise_, s_raise0_, s_aug_, aug_add, aug_sub, s_tryA_, s_tryO_, catchA_nx, catchA_ret, catchA_brk, catchA_ct, catchO_nx, catchO_ret, catchO_brk, catchO_ct, gone_nx, gone_ret, gone_brk, gone_ct, noX_nx, noX_ret, noX_brk, noX_ct, bind_exc, toS_exc, seq_exc, loop_exc, toR_exc, eFldS, eIsS, gl0, gl1, gl2, gl3, gl4, gl5, gl6, xs0_0, xs0_1, xs0_2, xs0_3, xi1, xk1_0, ra1, xs1_0, xs1_1, xs1_2, xs1_3, xi2, xk2_0, xk2_1, ra2, xs2_0, xs2_1, xs2_2, xs2_3, mi3_19, mi3_20, mi3_21, mi3_22, mi3_23, mi3_24, mi3_25, mi3_26, mi3_27, mi3_28, mi3_29, mi3_30, mi3_31, mi3_32, mi3_33, mi3_34, mi3_35, mi3_36, mi3_37, mi3_38, mi3_39, mi3_40, mi3_41, fd3_0, fd3_1, ho3]
    · rw [sp_one hb] at sp
      have w1 := lw_ok (n := n) (z := a) (μ := μ) (by omega)
      have w2 := lw_ok (n := n) (z := b) (μ := μ) (by omega)
      have lt := fun k (h : wZ a = some k) => wZ_lt h
      have lu := fun k (h : wZ b = some k) => wZ_lt h
      generalize wZ a = t at *
      generalize wZ b = u at *
      cases ng : ngS z with
      | true =>
        rw [ng] at fd
        have s2 := s2 ng
        generalize a ++ "/" ++ b = y at *
        cases u with
        | none =>
          have on : outc true t none true = none := by cases t <;> rfl
          rw [on]
          simp only [f13, b13, sl, c_str, fd, s2, sp, List.map_cons, List.map_nil, len_l, List.length_cons, List.length_nil, k2, c_gt, c2, ix_l0, ix_l1, w1, w2, c_eq, c4, optI, c_lt, c6, dueO, x_var, x_int, x_bl, x_str, x_non, x_glo, x_bin, x_un, x_cmp, x_cmp2, asBl_bl, x_and, x_or, x_not, x_ite, x_tup, x_lst, x_lstC, x_call, x_callK, x_mk, x_mkC, x_mkK, x_meth, x_attr, x_ix, x_bi, x_sl, x_fz, x_nil, x_cons, x_onone, asI_int, x_osome, x_tval, x_tand, x_tor, x_tnot, x_iseq, walkR_tup, walkR_lst, walkR_klst, x_irange1, x_irange2, x_itxt, walkT_str, x_ienum, enR_eq, x_izip, forG_nil, x_comp, compG_nil, x_cnone, x_csome, x_bm, x_dnew, wipeD_cons, wipeD_nil, s_set_, s_par_, s_unp_, s_ret_, s_retN_, s_drop_, s_ife_, s_fr_, s_brk_, s_ct_, s_pass_, s_never_, s_setIx_, s_setAttr_, s_nil_, s_cons_, bind_ok, toS_ok, seq_nx, seq_ret, seq_brk, seq_ct, loop_nx, loop_ct, loop_brk, loop_ret, toR_ret, toR_nx, bin_ints, intB_add, intB_sub, biS, toIntS, setAll, List.getElem?_cons_zero, List.getElem?_cons_succ, List.set_cons_zero, List.set_cons_succ, List.map_cons, List.map_nil, List.length_cons, List.length_nil, List.cons_append, List.nil_append, List.append_nil, List.replicate_succ, List.replicate_zero, Nat.reduceAdd, Nat.reduceSub, Nat.zero_add, Nat.reduceLeDiff, if_true, if_false, Bool.false_eq_true, decide_true, decide_false, Bool.not_true, Bool.not_false, x_eFld, x_eIs, s_raise_, s_raise0_, s_aug_, aug_add, aug_sub, s_tryA_, s_tryO_, catchA_nx, catchA_ret, catchA_brk, catchA_ct, catchO_nx, catchO_ret, catchO_brk, catchO_ct, gone_nx, gone_ret, gone_brk, gone_ct, noX_nx, noX_ret, noX_brk, noX_ct, bind_exc, toS_exc, seq_exc, loop_exc, toR_exc, eFldS, eIsS, gl0, gl1, gl2, gl3, gl4, gl5, gl6, xs0_0, xs0_1, xs0_2, xs0_3, xi1, xk1_0, ra1, xs1_0, xs1_1, xs1_2, xs1_3, xi2, xk2_0, xk2_1, ra2, xs2_0, xs2_1, xs2_2, xs2_3, mi3_19, mi3_20, mi3_21, mi3_22, mi3_23, mi3_24, mi3_25, mi3_26, mi3_27, mi3_28, mi3_29, mi3_30, mi3_31, mi3_32, mi3_33, mi3_34, mi3_35, mi3_36, mi3_37, mi3_38, mi3_39, mi3_40, mi3_41, fd3_0, fd3_1, ho3]
        | some u =>
          by_cases b2 : u < 2
          · have i2 : ((u : Nat) : Int) < 2 := by omega
            have on : outc true t (some u) true = none := by
              cases t with
              | none => rfl
              | some t => exact outc_no (.inl ⟨rfl, b2⟩)
            rw [on]
            simp only [f13, b13, sl, c_str, fd, s2, sp, List.map_cons, List.map_nil, len_l, List.length_cons, List.length_nil, k2, c_gt, c2, ix_l0, ix_l1, w1, w2, c_eq, c4, optI, c_lt, dt i2, dueO, x_var, x_int, x_bl, x_str, x_non, x_glo, x_bin, x_un, x_cmp, x_cmp2, asBl_bl, x_and, x_or, x_not, x_ite, x_tup, x_lst, x_lstC, x_call, x_callK, x_mk, x_mkC, x_mkK, x_meth, x_attr, x_ix, x_bi, x_sl, x_fz, x_nil, x_cons, x_onone, asI_int, x_osome, x_tval, x_tand, x_tor, x_tnot, x_iseq, walkR_tup, walkR_lst, walkR_klst, x_irange1, x_irange2, x_itxt, walkT_str, x_ienum, enR_eq, x_izip, forG_nil, x_comp, compG_nil, x_cnone, x_csome, x_bm, x_dnew, wipeD_cons, wipeD_nil, s_set_, s_par_, s_unp_, s_ret_, s_retN_, s_drop_, s_ife_, s_fr_, s_brk_, s_ct_, s_pass_, s_never_, s_setIx_, s_setAttr_, s_nil_, s_cons_, bind_ok, toS_ok, seq_nx, seq_ret, seq_brk, seq_ct, loop_nx, loop_ct, loop_brk, loop_ret, toR_ret, toR_nx, bin_ints, intB_add, intB_sub, biS, toIntS, setAll, List.getElem?_cons_zero, List.getElem?_cons_succ, List.set_cons_zero, List.set_cons_succ, List.map_cons, List.map_nil, List.length_cons, List.length_nil, List.cons_append, List.nil_append, List.append_nil, List.replicate_succ, List.replicate_zero, Nat.reduceAdd, Nat.reduceSub, Nat.zero_add, Nat.reduceLeDiff, if_true, if_false, Bool.false_eq_true, decide_true, decide_false, Bool.not_true, Bool.not_false, x_eFld, x_eIs, s_raise_, s_raise0_, s_aug_, aug_add, aug_sub, s_tryA_, s_tryO_, catchA_nx, catchA_ret, catchA_brk, catchA_ct, catchO_nx, catchO_ret, catchO_brk, catchO_ct, gone_nx, gone_ret, gone_brk, gone_ct, noX_nx, noX_ret, noX_brk, noX_ct, bind_exc, toS_exc, seq_exc, loop_exc, toR_exc, eFldS, eIsS, gl0, gl1, gl2, gl3, gl4, gl5, gl6, xs0_0, xs0_1, xs0_2, xs0_3, xi1, xk1_0, ra1, xs1_0, xs1_1, xs1_2, xs1_3, xi2, xk2_0, xk2_1, ra2, xs2_0, xs2_1, xs2_2, xs2_3, mi3_19, mi3_20, mi3_21, mi3_22, mi3_23, mi3_24, mi3_25, mi3_26, mi3_27, mi3_28, mi3_29, mi3_30, mi3_31, mi3_32, mi3_33, mi3_34, mi3_35, mi3_36, mi3_37, mi3_38, mi3_39, mi3_40, mi3_41, fd3_0, fd3_1, ho3]
          · have i2 : ¬ ((u : Nat) : Int) < 2 := by omega
            cases t with
            | none =>
              have on : outc true none (some u) true = none := rfl
              rw [on]
              simp only [f13, b13, sl, c_str, fd, s2, sp, List.map_cons, List.map_nil, len_l, List.length_cons, List.length_nil, k2, c_gt, c2, ix_l0, ix_l1, w1, w2, c_eq, c4, optI, c_lt, df i2, c5, dueO, x_var, x_int, x_bl, x_str, x_non, x_glo, x_bin, x_un, x_cmp, x_cmp2, asBl_bl, x_and, x_or, x_not, x_ite, x_tup, x_lst, x_lstC, x_call, x_callK, x_mk, x_mkC, x_mkK, x_meth, x_attr, x_ix, x_bi, x_sl, x_fz, x_nil, x_cons, x_onone, asI_int, x_osome, x_tval, x_tand, x_tor, x_tnot, x_iseq, walkR_tup, walkR_lst, walkR_klst, x_irange1, x_irange2, x_itxt, walkT_str, x_ienum, enR_eq, x_izip, forG_nil, x_comp, compG_nil, x_cnone, x_csome, x_bm, x_dnew, wipeD_cons, wipeD_nil, s_set_, s_par_, s_unp_, s_ret_, s_retN_, s_drop_, s_ife_, s_fr_, s_brk_, s_ct_, s_pass_, s_never_, s_setIx_, s_setAttr_, s_nil_, s_cons_, bind_ok, toS_ok, seq_nx, seq_ret, seq_brk, seq_ct, loop_nx, loop_ct, loop_brk, loop_ret, toR_ret, toR_nx, bin_ints, intB_add, intB_sub, biS, toIntS, setAll, List.getElem?_cons_zero, List.getElem?_cons_succ, List.set_cons_zero, List.set_cons_succ, List.map_cons, List.map_nil, List.length_cons, List.length_nil, List.cons_append, List.nil_append, List.append_nil, List.replicate_succ, List.replicate_zero, Nat.reduceAdd, Nat.reduceSub, Nat.zero_add, Nat.reduceLeDiff, if_true, if_false, Bool.false_eq_true, decide_true, decide_false, Bool.not_true, Bool.not_false, x_eFld, x_eIs, s_raise_, s_raise0_, s_aug_, aug_add, aug_sub, s_tryA_, s_tryO_, catchA_nx, catchA_ret, catchA_brk, catchA_ct, catchO_nx, catchO_ret, catchO_brk, catchO_ct, gone_nx, gone_ret, gone_brk, gone_ct, noX_nx, noX_ret, noX_brk, noX_ct, bind_exc, toS_exc, seq_exc, loop_exc, toR_exc, eFldS, eIsS, gl0, gl1, gl2, gl3, gl4, gl5, gl6, xs0_0, xs0_1, xs0_2, xs0_3, xi1, xk1_0, ra1, xs1_0, xs1_1, xs1_2, xs1_3, xi2, xk2_0, xk2_1, ra2, xs2_0, xs2_1, xs2_2, xs2_3, mi3_19, mi3_20, mi3_21, mi3_22, mi3_23, mi3_24, mi3_25, mi3_26, mi3_27, mi3_28, mi3_29, mi3_30, mi3_31, mi3_32, mi3_33, mi3_34, mi3_35, mi3_36, mi3_37, mi3_38, mi3_39, mi3_40, mi3_41, fd3_0, fd3_1, ho3]
            | some t =>
              have nn : ¬ ((t : Nat) : Int) < 0 := by omega
              by_cases t0 : t = 0
              · have i0 : ((t : Nat) : Int) = 0 := by omega
                rw [outc_no (.inr (.inl ⟨rfl, t0⟩))]
                simp only [f13, b13, sl, c_str, fd, s2, sp, List.map_cons, List.map_nil, len_l, List.length_cons, List.length_nil, k2, c_gt, c2, ix_l0, ix_l1, w1, w2, c_eq, c4, optI, c_lt, df i2, df nn, dt i0, dueO, x_var, x_int, x_bl, x_str, x_non, x_glo, x_bin, x_un, x_cmp, x_cmp2, asBl_bl, x_and, x_or, x_not, x_ite, x_tup, x_lst, x_lstC, x_call, x_callK, x_mk, x_mkC, x_mkK, x_meth, x_attr, x_ix, x_bi, x_sl, x_fz, x_nil, x_cons, x_onone, asI_int, x_osome, x_tval, x_tand, x_tor, x_tnot, x_iseq, walkR_tup, walkR_lst, walkR_klst, x_irange1, x_irange2, x_itxt, walkT_str, x_ienum, enR_eq, x_izip, forG_nil, x_comp, compG_nil, x_cnone, x_csome, x_bm, x_dnew, wipeD_cons, wipeD_nil, s_set_, s_par_, s_unp_, s_ret_, s_retN_, s_drop_, s_ife_, s_fr_, s_brk_, s_ct_, s_pass_, s_never_, s_setIx_, s_setAttr_, s_nil_, s_cons_, bind_ok, toS_ok, seq_nx, seq_ret, seq_brk, seq_ct, loop_nx, loop_ct, loop_brk, loop_ret, toR_ret, toR_nx, bin_ints, intB_add, intB_sub, biS, toIntS, setAll, List.getElem?_cons_zero, List.getElem?_cons_succ, List.set_cons_zero, List.set_cons_succ, List.map_cons, List.map_nil, List.length_cons, List.length_nil, List.cons_append, List.nil_append, List.append_nil, List.replicate_succ, List.replicate_zero, Nat.reduceAdd, Nat.reduceSub, Nat.zero_add, Nat.reduceLeDiff, if_true, if_false, Bool.false_eq_true, decide_true, decide_false, Bool.not_true, Bool.not_false, x_eFld, x_eIs, s_raise_, s_raise0_, s_aug_, aug_add, aug_sub, s_tryA_, s_tryO_, catchA_nx, catchA_ret, catchA_brk, catchA_ct, catchO_nx, catchO_ret, catchO_brk, catchO_ct, gone_nx, gone_ret, gone_brk, gone_ct, noX_nx, noX_ret, noX_brk, noX_ct, bind_exc, toS_exc, seq_exc, loop_exc, toR_exc, eFldS, eIsS, gl0, gl1, gl2, gl3, gl4, gl5, gl6, xs0_0, xs0_1, xs0_2, xs0_3, xi1, xk1_0, ra1, xs1_0, xs1_1, xs1_2, xs1_3, xi2, xk2_0, xk2_1, ra2, xs2_0, xs2_1, xs2_2, xs2_3, mi3_19, mi3_20, mi3_21, mi3_22, mi3_23, mi3_24, mi3_25, mi3_26, mi3_27, mi3_28, mi3_29, mi3_30, mi3_31, mi3_32, mi3_33, mi3_34, mi3_35, mi3_36, mi3_37, mi3_38, mi3_39, mi3_40, mi3_41, fd3_0, fd3_1, ho3]
              · have i0 : ¬ ((t : Nat) : Int) = 0 := by omega
                have sh := sh_ok (n := n) (a := t) (b := u) (μ := μ) (lt t rfl) (lu u rfl)
                by_cases g : Nat.gcd t u = 1
                · rw [outc_ok (by simp [b2]) (by simp [t0]) g]
                  rw [g] at sh
                  simp only [Int.natCast_one] at sh
                  simp only [f13, b13, sl, c_str, fd, s2, sp, List.map_cons, List.map_nil, len_l, List.length_cons, List.length_nil, k2, c_gt, c2, ix_l0, ix_l1, w1, w2, c_eq, c4, optI, c_lt, df i2, df nn, df i0, sh, c_ne, one, un_neg_int, dueO, x_var, x_int, x_bl, x_str, x_non, x_glo, x_bin, x_un, x_cmp, x_cmp2, asBl_bl, x_and, x_or, x_not, x_ite, x_tup, x_lst, x_lstC, x_call, x_callK, x_mk, x_mkC, x_mkK, x_meth, x_attr, x_ix, x_bi, x_sl, x_fz, x_nil, x_cons, x_onone, asI_int, x_osome, x_tval, x_tand, x_tor, x_tnot, x_iseq, walkR_tup, walkR_lst, walkR_klst, x_irange1, x_irange2, x_itxt, walkT_str, x_ienum, enR_eq, x_izip, forG_nil, x_comp, compG_nil, x_cnone, x_csome, x_bm, x_dnew, wipeD_cons, wipeD_nil, s_set_, s_par_, s_unp_, s_ret_, s_retN_, s_drop_, s_ife_, s_fr_, s_brk_, s_ct_, s_pass_, s_never_, s_setIx_, s_setAttr_, s_nil_, s_cons_, bind_ok, toS_ok, seq_nx, seq_ret, seq_brk, seq_ct, loop_nx, loop_ct, loop_brk, loop_ret, toR_ret, toR_nx, bin_ints, intB_add, intB_sub, biS, toIntS, setAll, List.getElem?_cons_zero, List.getElem?_cons_succ, List.set_cons_zero, List.set_cons_succ, List.map_cons, List.map_nil, List.length_cons, List.length_nil, List.cons_append, List.nil_append, List.append_nil, List.replicate_succ, List.replicate_zero, Nat.reduceAdd, Nat.reduceSub, Nat.zero_add, Nat.reduceLeDiff, if_true, if_false, Bool.false_eq_true, decide_true, decide_false, Bool.not_true, Bool.not_false, x_eFld, x_eIs, s_raise_, s_raise0_, s_aug_, aug_add, aug_sub, s_tryA_, s_tryO_, catchA_nx, catchA_ret, catchA_brk, catchA_ct, catchO_nx, catchO_ret, catchO_brk, catchO_ct, gone_nx, gone_ret, gone_brk, gone_ct, noX_nx, noX_ret, noX_brk, noX_ct, bind_exc, toS_exc, seq_exc, loop_exc, toR_exc, eFldS, eIsS, gl0, gl1, gl2, gl3, gl4, gl5, gl6, xs0_0, xs0_1, xs0_2, xs0_3, xi1, xk1_0, ra1, xs1_0, xs1_1, xs1_2, xs1_3, xi2, xk2_0, xk2_1, ra2, xs2_0, xs2_1, xs2_2, xs2_3, mi3_19, mi3_20, mi3_21, mi3_22, mi3_23, mi3_24, mi3_25, mi3_26, mi3_27, mi3_28, mi3_29, mi3_30, mi3_31, mi3_32, mi3_33, mi3_34, mi3_35, mi3_36, mi3_37, mi3_38, mi3_39, mi3_40, mi3_41, fd3_0, fd3_1, ho3]
                · have ng : ¬ ((Nat.gcd t u : Nat) : Int) = 1 := by omega
                  rw [outc_no (.inr (.inr g))]
                  simp only [f13, b13, sl, c_str, fd, s2, sp, List.map_cons, List.map_nil, len_l, List.length_cons, List.length_nil, k2, c_gt, c2, ix_l0, ix_l1, w1, w2, c_eq, c4, optI, c_lt, df i2, df nn, df i0, sh, c_ne, df ng, dueO, x_var, x_int, x_bl, x_str, x_non, x_glo, x_bin, x_un, x_cmp, x_cmp2, asBl_bl, x_and, x_or, x_not, x_ite, x_tup, x_lst, x_lstC, x_call, x_callK, x_mk, x_mkC, x_mkK, x_meth, x_attr, x_ix, x_bi, x_sl, x_fz, x_nil, x_cons, x_onone, asI_int, x_osome, x_tval, x_tand, x_tor, x_tnot, x_iseq, walkR_tup, walkR_lst, walkR_klst, x_irange1, x_irange2, x_itxt, walkT_str, x_ienum, enR_eq, x_izip, forG_nil, x_comp, compG_nil, x_cnone, x_csome, x_bm, x_dnew, wipeD_cons, wipeD_nil, s_set_, s_par_, s_unp_, s_ret_, s_retN_, s_drop_, s_ife_, s_fr_, s_brk_, s_ct_, s_pass_, s_never_, s_setIx_, s_setAttr_, s_nil_, s_cons_, bind_ok, toS_ok, seq_nx, seq_ret, seq_brk, seq_ct, loop_nx, loop_ct, loop_brk, loop_ret, toR_ret, toR_nx, bin_ints, intB_add, intB_sub, biS, toIntS, setAll, List.getElem?_cons_zero, List.getElem?_cons_succ, List.set_cons_zero, List.set_cons_succ, List.map_cons, List.map_nil, List.length_cons, List.length_nil, List.cons_append, List.nil_append, List.append_nil, List.replicate_succ, List.replicate_zero, Nat.reduceAdd, Nat.reduceSub, Nat.zero_add, Nat.reduceLeDiff, if_true, if_false, Bool.false_eq_true, decide_true, decide_false, Bool.not_true, Bool.not_false, x_eFld, x_eIs, s_raise_, s_raise0_, s_aug_, aug_add, aug_sub, s_tryA_, s_tryO_, catchA_nx, catchA_ret, catchA_brk, catchA_ct, catchO_nx, catchO_ret, catchO_brk, catchO_ct, gone_nx, gone_ret, gone_brk, gone_ct, noX_nx, noX_ret, noX_brk, noX_ct, bind_exc, toS_exc, seq_exc, loop_exc, toR_exc, eFldS, eIsS, gl0, gl1, gl2, gl3, gl4, gl5, gl6, xs0_0, xs0_1, xs0_2, xs0_3, xi1, xk1_0, ra1, xs1_0, xs1_1, xs1_2, xs1_3, xi2, xk2_0, xk2_1, ra2, xs2_0, xs2_1, xs2_2, xs2_3, mi3_19, mi3_20, mi3_21, mi3_22, mi3_23, mi3_24, mi3_25, mi3_26, mi3_27, mi3_28, mi3_29, mi3_30, mi3_31, mi3_32, mi3_33, mi3_34, mi3_35, mi3_36, mi3_37, mi3_38, mi3_39, mi3_40, mi3_41, fd3_0, fd3_1, ho3]
      | false =>
        rw [ng] at fd
        rw [pos ng] at sp
        cases u with
        | none =>
          have on : outc false t none true = none := by cases t <;> rfl
          rw [on]
          simp only [f13, b13, sl, c_str, fd, sp, List.map_cons, List.map_nil, len_l, List.length_cons, List.length_nil, k2, c_gt, c2, ix_l0, ix_l1, w1, w2, c_eq, c4, optI, c_lt, c6, dueO, x_var, x_int, x_bl, x_str, x_non, x_glo, x_bin, x_un, x_cmp, x_cmp2, asBl_bl, x_and, x_or, x_not, x_ite, x_tup, x_lst, x_lstC, x_call, x_callK, x_mk, x_mkC, x_mkK, x_meth, x_attr, x_ix, x_bi, x_sl, x_fz, x_nil, x_cons, x_onone, asI_int, x_osome, x_tval, x_tand, x_tor, x_tnot, x_iseq, walkR_tup, walkR_lst, walkR_klst, x_irange1, x_irange2, x_itxt, walkT_str, x_ienum, enR_eq, x_izip, forG_nil, x_comp, compG_nil, x_cnone, x_csome, x_bm, x_dnew, wipeD_cons, wipeD_nil, s_set_, s_par_, s_unp_, s_ret_, s_retN_, s_drop_, s_ife_, s_fr_, s_brk_, s_ct_, s_pass_, s_never_, s_setIx_, s_setAttr_, s_nil_, s_cons_, bind_ok, toS_ok, seq_nx, seq_ret, seq_brk, seq_ct, loop_nx, loop_ct, loop_brk, loop_ret, toR_ret, toR_nx, bin_ints, intB_add, intB_sub, biS, toIntS, setAll, List.getElem?_cons_zero, List.getElem?_cons_succ, List.set_cons_zero, List.set_cons_succ, List.map_cons, List.map_nil, List.length_cons, List.length_nil, List.cons_append, List.nil_append, List.append_nil, List.replicate_succ, List.replicate_zero, Nat.reduceAdd, Nat.reduceSub, Nat.zero_add, Nat.reduceLeDiff, if_true, if_false, Bool.false_eq_true, decide_true, decide_false, Bool.not_true, Bool.not_false, x_eFld, x_eIs, s_raise_, s_raise0_, s_aug_, aug_add, aug_sub, s_tryA_, s_tryO_, catchA_nx, catchA_ret, catchA_brk, catchA_ct, catchO_nx, catchO_ret, catchO_brk, catchO_ct, gone_nx, gone_ret, gone_brk, gone_ct, noX_nx, noX_ret, noX_brk, noX_ct, bind_exc, toS_exc, seq_exc, loop_exc, toR_exc, eFldS, eIsS, gl0, gl1, gl2, gl3, gl4, gl5, gl6, xs0_0, xs0_1, xs0_2, xs0_3, xi1, xk1_0, ra1, xs1_0, xs1_1, xs1_2, xs1_3, xi2, xk2_0, xk2_1, ra2, xs2_0, xs2_1, xs2_2, xs2_3, mi3_19, mi3_20, mi3_21, mi3_22, mi3_23, mi3_24, mi3_25, mi3_26, mi3_27, mi3_28, mi3_29, mi3_30, mi3_31, mi3_32, mi3_33, mi3_34, mi3_35, mi3_36, mi3_37, mi3_38, mi3_39, mi3_40, mi3_41, fd3_0, fd3_1, ho3]
        | some u =>
          by_cases b2 : u < 2
          · have i2 : ((u : Nat) : Int) < 2 := by omega
            have on : outc false t (some u) true = none := by
              cases t with
              | none => rfl
              | some t => exact outc_no (.inl ⟨rfl, b2⟩)
            rw [on]
            simp only [f13, b13, sl, c_str, fd, sp, List.map_cons, List.map_nil, len_l, List.length_cons, List.length_nil, k2, c_gt, c2, ix_l0, ix_l1, w1, w2, c_eq, c4, optI, c_lt, dt i2, dueO, x_var, x_int, x_bl, x_str, x_non, x_glo, x_bin, x_un, x_cmp, x_cmp2, asBl_bl, x_and, x_or, x_not, x_ite, x_tup, x_lst, x_lstC, x_call, x_callK, x_mk, x_mkC, x_mkK, x_meth, x_attr, x_ix, x_bi, x_sl, x_fz, x_nil, x_cons, x_onone, asI_int, x_osome, x_tval, x_tand, x_tor, x_tnot, x_iseq, walkR_tup, walkR_lst, walkR_klst, x_irange1, x_irange2, x_itxt, walkT_str, x_ienum, enR_eq, x_izip, forG_nil, x_comp, compG_nil, x_cnone, x_csome, x_bm, x_dnew, wipeD_cons, wipeD_nil, s_set_, s_par_, s_unp_, s_ret_, s_retN_, s_drop_, s_ife_, s_fr_, s_brk_, s_ct_, s_pass_, s_never_, s_setIx_, s_setAttr_, s_nil_, s_cons_, bind_ok, toS_ok, seq_nx, seq_ret, seq_brk, seq_ct, loop_nx, loop_ct, loop_brk, loop_ret, toR_ret, toR_nx, bin_ints, intB_add, intB_sub, biS, toIntS, setAll, List.getElem?_cons_zero, List.getElem?_cons_succ, List.set_cons_zero, List.set_cons_succ, List.map_cons, List.map_nil, List.length_cons, List.length_nil, List.cons_append, List.nil_append, List.append_nil, List.replicate_succ, List.replicate_zero, Nat.reduceAdd, Nat.reduceSub, Nat.zero_add, Nat.reduceLeDiff, if_true, if_false, Bool.false_eq_true, decide_true, decide_false, Bool.not_true, Bool.not_false, x_eFld, x_eIs, s_raise_, s_raise0_, s_aug_, aug_add, aug_sub, s_tryA_, s_tryO_, catchA_nx, catchA_ret, catchA_brk, catchA_ct, catchO_nx, catchO_ret, catchO_brk, catchO_ct, gone_nx, gone_ret, gone_brk, gone_ct, noX_nx, noX_ret, noX_brk, noX_ct, bind_exc, toS_exc, seq_exc, loop_exc, toR_exc, eFldS, eIsS, gl0, gl1, gl2, gl3, gl4, gl5, gl6, xs0_0, xs0_1, xs0_2, xs0_3, xi1, xk1_0, ra1, xs1_0, xs1_1, xs1_2, xs1_3, xi2, xk2_0, xk2_1, ra2, xs2_0, xs2_1, xs2_2, xs2_3, mi3_19, mi3_20, mi3_21, mi3_22, mi3_23, mi3_24, mi3_25, mi3_26, mi3_27, mi3_28, mi3_29, mi3_30, mi3_31, mi3_32, mi3_33, mi3_34, mi3_35, mi3_36, mi3_37, mi3_38, mi3_39, mi3_40, mi3_41, fd3_0, fd3_1, ho3]
          · have i2 : ¬ ((u : Nat) : Int) < 2 := by omega
            cases t with
            | none =>
              have on : outc false none (some u) true = none := rfl
              rw [on]
              simp only [f13, b13, sl, c_str, fd, sp, List.map_cons, List.map_nil, len_l, List.length_cons, List.length_nil, k2, c_gt, c2, ix_l0, ix_l1, w1, w2, c_eq, c4, optI, c_lt, df i2, c5, dueO, x_var, x_int, x_bl, x_str, x_non, x_glo, x_bin, x_un, x_cmp, x_cmp2, asBl_bl, x_and, x_or, x_not, x_ite, x_tup, x_lst, x_lstC, x_call, x_callK, x_mk, x_mkC, x_mkK, x_meth, x_attr, x_ix, x_bi, x_sl, x_fz, x_nil, x_cons, x_onone, asI_int, x_osome, x_tval, x_tand, x_tor, x_tnot, x_iseq, walkR_tup, walkR_lst, walkR_klst, x_irange1, x_irange2, x_itxt, walkT_str, x_ienum, enR_eq, x_izip, forG_nil, x_comp, compG_nil, x_cnone, x_csome, x_bm, x_dnew, wipeD_cons, wipeD_nil, s_set_, s_par_, s_unp_, s_ret_, s_retN_, s_drop_, s_ife_, s_fr_, s_brk_, s_ct_, s_pass_, s_never_, s_setIx_, s_setAttr_, s_nil_, s_cons_, bind_ok, toS_ok, seq_nx, seq_ret, seq_brk, seq_ct, loop_nx, loop_ct, loop_brk, loop_ret, toR_ret, toR_nx, bin_ints, intB_add, intB_sub, biS, toIntS, setAll, List.getElem?_cons_zero, List.getElem?_cons_succ, List.set_cons_zero, List.set_cons_succ, List.map_cons, List.map_nil, List.length_cons, List.length_nil, List.cons_append, List.nil_append, List.append_nil, List.replicate_succ, List.replicate_zero, Nat.reduceAdd, Nat.reduceSub, Nat.zero_add, Nat.reduceLeDiff, if_true, if_false, Bool.false_eq_true, decide_true, decide_false, Bool.not_true, Bool.not_false, x_eFld, x_eIs, s_raise_, s_raise0_, s_aug_, aug_add, aug_sub, s_tryA_, s_tryO_, catchA_nx, catchA_ret, catchA_brk, catchA_ct, catchO_nx, catchO_ret, catchO_brk, catchO_ct, gone_nx, gone_ret, gone_brk, gone_ct, noX_nx, noX_ret, noX_brk, noX_ct, bind_exc, toS_exc, seq_exc, loop_exc, toR_exc, eFldS, eIsS, gl0, gl1, gl2, gl3, gl4, gl5, gl6, xs0_0, xs0_1, xs0_2, xs0_3, xi1, xk1_0, ra1, xs1_0, xs1_1, xs1_2, xs1_3, xi2, xk2_0, xk2_1, ra2, xs2_0, xs2_1, xs2_2, xs2_3, mi3_19, mi3_20, mi3_21, mi3_22, mi3_23, mi3_24, mi3_25, mi3_26, mi3_27, mi3_28, mi3_29, mi3_30, mi3_31, mi3_32, mi3_33, mi3_34, mi3_35, mi3_36, mi3_37, mi3_38, mi3_39, mi3_40, mi3_41, fd3_0, fd3_1, ho3]
            | some t =>
              have nn : ¬ ((t : Nat) : Int) < 0 := by omega
              have sh := sh_ok (n := n) (a := t) (b := u) (μ := μ) (lt t rfl) (lu u rfl)
              by_cases g : Nat.gcd t u = 1
              · rw [outc_ok (by simp [b2]) (by simp) g]
                rw [g] at sh
                simp only [Int.natCast_one] at sh
                simp only [f13, b13, sl, c_str, fd, sp, List.map_cons, List.map_nil, len_l, List.length_cons, List.length_nil, k2, c_gt, c2, ix_l0, ix_l1, w1, w2, c_eq, c4, optI, c_lt, df i2, df nn, sh, c_ne, one, dueO, x_var, x_int, x_bl, x_str, x_non, x_glo, x_bin, x_un, x_cmp, x_cmp2, asBl_bl, x_and, x_or, x_not, x_ite, x_tup, x_lst, x_lstC, x_call, x_callK, x_mk, x_mkC, x_mkK, x_meth, x_attr, x_ix, x_bi, x_sl, x_fz, x_nil, x_cons, x_onone, asI_int, x_osome, x_tval, x_tand, x_tor, x_tnot, x_iseq, walkR_tup, walkR_lst, walkR_klst, x_irange1, x_irange2, x_itxt, walkT_str, x_ienum, enR_eq, x_izip, forG_nil, x_comp, compG_nil, x_cnone, x_csome, x_bm, x_dnew, wipeD_cons, wipeD_nil, s_set_, s_par_, s_unp_, s_ret_, s_retN_, s_drop_, s_ife_, s_fr_, s_brk_, s_ct_, s_pass_, s_never_, s_setIx_, s_setAttr_, s_nil_, s_cons_, bind_ok, toS_ok, seq_nx, seq_ret, seq_brk, seq_ct, loop_nx, loop_ct, loop_brk, loop_ret, toR_ret, toR_nx, bin_ints, intB_add, intB_sub, biS, toIntS, setAll, List.getElem?_cons_zero, List.getElem?_cons_succ, List.set_cons_zero, List.set_cons_succ, List.map_cons, List.map_nil, List.length_cons, List.length_nil, List.cons_append, List.nil_append, List.append_nil, List.replicate_succ, List.replicate_zero, Nat.reduceAdd, Nat.reduceSub, Nat.zero_add, Nat.reduceLeDiff, if_true, if_false, Bool.false_eq_true, decide_true, decide_false, Bool.not_true, Bool.not_false, x_eFld, x_eIs, s_raise_, s_raise0_, s_aug_, aug_add, aug_sub, s_tryA_, s_tryO_, catchA_nx, catchA_ret, catchA_brk, catchA_ct, catchO_nx, catchO_ret, catchO_brk, catchO_ct, gone_nx, gone_ret, gone_brk, gone_ct, noX_nx, noX_ret, noX_brk, noX_ct, bind_exc, toS_exc, seq_exc, loop_exc, toR_exc, eFldS, eIsS, gl0, gl1, gl2, gl3, gl4, gl5, gl6, xs0_0, xs0_1, xs0_2, xs0_3, xi1, xk1_0, ra1, xs1_0, xs1_1, xs1_2, xs1_3, xi2, xk2_0, xk2_1, ra2, xs2_0, xs2_1, xs2_2, xs2_3, mi3_19, mi3_20, mi3_21, mi3_22, mi3_23, mi3_24, mi3_25, mi3_26, mi3_27, mi3_28, mi3_29, mi3_30, mi3_31, mi3_32, mi3_33, mi3_34, mi3_35, mi3_36, mi3_37, mi3_38, mi3_39, mi3_40, mi3_41, fd3_0, fd3_1, ho3]
              · have ng : ¬ ((Nat.gcd t u : Nat) : Int) = 1 := by omega
                rw [outc_no (.inr (.inr g))]
                simp only [f13, b13, sl, c_str, fd, sp, List.map_cons, List.map_nil, len_l, List.length_cons, List.length_nil, k2, c_gt, c2, ix_l0, ix_l1, w1, w2, c_eq, c4, optI, c_lt, df i2, df nn, sh, c_ne, df ng, dueO, x_var, x_int, x_bl, x_str, x_non, x_glo, x_bin, x_un, x_cmp, x_cmp2, asBl_bl, x_and, x_or, x_not, x_ite, x_tup, x_lst, x_lstC, x_call, x_callK, x_mk, x_mkC, x_mkK, x_meth, x_attr, x_ix, x_bi, x_sl, x_fz, x_nil, x_cons, x_onone, asI_int, x_osome, x_tval, x_tand, x_tor, x_tnot, x_iseq, walkR_tup, walkR_lst, walkR_klst, x_irange1, x_irange2, x_itxt, walkT_str, x_ienum, enR_eq, x_izip, forG_nil, x_comp, compG_nil, x_cnone, x_csome, x_bm, x_dnew, wipeD_cons, wipeD_nil, s_set_, s_par_, s_unp_, s_ret_, s_retN_, s_drop_, s_ife_, s_fr_, s_brk_, s_ct_, s_pass_, s_never_, s_setIx_, s_setAttr_, s_nil_, s_cons_, bind_ok, toS_ok, seq_nx, seq_ret, seq_brk, seq_ct, loop_nx, loop_ct, loop_brk, loop_ret, toR_ret, toR_nx, bin_ints, intB_add, intB_sub, biS, toIntS, setAll, List.getElem?_cons_zero, List.getElem?_cons_succ, List.set_cons_zero, List.set_cons_succ, List.map_cons, List.map_nil, List.length_cons, List.length_nil, List.cons_append, List.nil_append, List.append_nil, List.replicate_succ, List.replicate_zero, Nat.reduceAdd, Nat.reduceSub, Nat.zero_add, Nat.reduceLeDiff, if_true, if_false, Bool.false_eq_true, decide_true, decide_false, Bool.not_true, Bool.not_false, x_eFld, x_eIs, s_raise_, s_raise0_, s_aug_, aug_add, aug_sub, s_tryA_, s_tryO_, catchA_nx, catchA_ret, catchA_brk, catchA_ct, catchO_nx, catchO_ret, catchO_brk, catchO_ct, gone_nx, gone_ret, gone_brk, gone_ct, noX_nx, noX_ret, noX_brk, noX_ct, bind_exc, toS_exc, seq_exc, loop_exc, toR_exc, eFldS, eIsS, gl0, gl1, gl2, gl3, gl4, gl5, gl6, xs0_0, xs0_1, xs0_2, xs0_3, xi1, xk1_0, ra1, xs1_0, xs1_1, xs1_2, xs1_3, xi2, xk2_0, xk2_1, ra2, xs2_0, xs2_1, xs2_2, xs2_3, mi3_19, mi3_20, mi3_21, mi3_22, mi3_23, mi3_24, mi3_25, mi3_26, mi3_27, mi3_28, mi3_29, mi3_30, mi3_31, mi3_32, mi3_33, mi3_34, mi3_35, mi3_36, mi3_37, mi3_38, mi3_39, mi3_40, mi3_41, fd3_0, fd3_1, ho3]
end K04
namespace K04
open PySem PySem.Spec PyProof.Rows L2 L3
/-! ### texts drawn -/
theorem Sc.mono {m k : Nat} {cl : Cel} (h : Sc m cl) (l : m ≤ k) : Sc k cl := by
  obtain ⟨a, b, c, e, q⟩ := h
  exact ⟨a, b, c, e, q.1, q.2.1, q.2.2.1, by have := q.2.2.2; omega⟩
theorem ix_str {z : Str} {r : Int} (h0 : 0 ≤ r) (h1 : r < (z.length : Nat)) (hz : z.length ≤ 1000000) : ∃ c, ∀ m, ixF (.str z) (.int r) m = .ok (.str ⟨#[c]⟩) m := by
  have hl : z.cps.toList.length = z.length := Array.length_toList
  have i : ixN z.cps.toList.length r = some r.toNat := by
    unfold ixN
    rw [if_pos h0, if_pos (by omega)]
  have lt : r.toNat < z.cps.toList.length := by omega
  refine ⟨z.cps.toList[r.toNat], fun m => ?_⟩
  have a : atI z.cps.toList r = some (z.cps.toList[r.toNat]) := by
    unfold atI
    rw [i]
    exact List.getElem?_eq_getElem lt
  simp only [ixF, ixD, a, if_pos hz]
theorem irange_mem {k : Nat} {d : D} (h : d ∈ irange 0 k) : ∃ i : Nat, d = .int i ∧ i < k := by
  obtain ⟨i, hi, e⟩ := List.mem_iff_getElem.mp h
  rw [irange_len] at hi
  obtain ⟨_, e2⟩ := irange_get (lo := 0) (n := k) (i := i) (d := d) (by rw [List.getElem?_eq_getElem (by rw [irange_len]; exact hi), e])
  exact ⟨i, by rw [e2]; simp, hi⟩
def One (d : D) : Prop := ∃ c, d = .str ⟨#[c]⟩
theorem ones : ∀ xs : List D, (∀ x ∈ xs, One x) → ∃ ys : List Str, xs = ys.map .str ∧ ys.length = xs.length ∧ ∀ y ∈ ys, y.length = 1
  | [], _ => ⟨[], rfl, rfl, fun y h => absurd h (List.not_mem_nil)⟩
  | x :: xs, h => by
    obtain ⟨c, rfl⟩ := h x (List.mem_cons_self ..)
    obtain ⟨ys, rfl, l, q⟩ := ones xs fun y hy => h y (List.mem_cons_of_mem _ hy)
    refine ⟨⟨#[c]⟩ :: ys, rfl, by simp, fun y hy => ?_⟩
    rcases List.mem_cons.mp hy with rfl | hy
    · rfl
    · exact q y hy
theorem strs_of : ∀ ys : List Str, strsOf (ys.map .str) = some ys
  | [] => rfl
  | y :: ys => by
    show (match strsOf (ys.map .str) with
      | some ys => some (y :: ys)
      | none => none) = _
    rw [strs_of ys]
theorem tl_e : TL.tl ("" : Str) = [] := by decide +kernel
theorem jl_nil : ∀ l : List (List Nat), TL.joinL [] l = l.flatten
  | [] => rfl
  | [p] => by simp [TL.joinL]
  | p :: q :: r => by
    show p ++ ([] ++ TL.joinL [] (q :: r)) = _
    rw [jl_nil (q :: r)]
    simp
theorem join_tl (ys : List Str) : TL.tl (Txt.join "" ys) = (ys.map TL.tl).flatten := by
  rw [TL.join_eq, TL.tl_join, tl_e, jl_nil]
theorem join_len {k : Nat} : ∀ ys : List Str, (∀ y ∈ ys, y.length = k) → (Txt.join "" ys).length = ys.length * k ∧ (ys.map (·.length)).sum = ys.length * k
  | [], _ => by
    constructor
    · rw [TL.len_tl, join_tl]
      simp
    · simp
  | y :: ys, h => by
    obtain ⟨q1, q2⟩ := join_len ys fun z hz => h z (List.mem_cons_of_mem _ hz)
    have hy := h y (List.mem_cons_self ..)
    rw [TL.len_tl, join_tl] at q1
    rw [TL.len_tl, join_tl, List.map_cons, List.flatten_cons, List.length_append, q1, ← TL.len_tl, hy, List.map_cons, List.sum_cons, q2, hy, List.length_cons, Nat.add_mul, Nat.one_mul]
    omega
theorem e_len : ("" : Str).length = 0 := by decide +kernel
theorem jn_ok {args : Mu → Res (List D)} {m m' : Mu} {d : D} {ys : List Str} (ha : args m = .ok [d] m') (hp : seqOf d m' = some (ys.map .str)) (hl : (ys.map (·.length)).sum ≤ 1000000) : bmS .join (.str "") args m = .ok (.str (Txt.join "" ys)) m' := by
  unfold bmS
  have k : BM.ok .join (.str "") m = true := rfl
  rw [if_pos k, ha, bind_ok]
  show (match seqOf d m' with
    | some xs => (match strsOf xs with
      | some ys => if (ys.map (fun y : Str => y.length)).sum + ys.length * ("" : Str).length ≤ 1000000 then Res.ok (D.str (Txt.join "" ys)) m' else .stuck
      | none => .stuck)
    | none => .stuck) = _
  rw [hp]
  dsimp only
  rw [strs_of]
  dsimp only
  rw [if_pos (by rw [e_len, Nat.mul_zero]; exact hl)]
abbrev dgE : JE := .ix (.str "0123456789") (.call 7 (.cons (.var 0) (.cons (.int 10) .nil)))
theorem dl : (("0123456789" : Str).length : Int) = 10 := by decide +kernel
theorem dlk : ("0123456789" : Str).length ≤ 1000000 := by decide +kernel
theorem digs_ok {n m k : Nat} {cl : Cel} {μ : Mu} {δ : Env3} (h : Sc m cl) (hm : m + 1 * k ≤ 8000) (hδ : ∀ d, ∃ δ', (Tg.one 6).put d δ = some δ' ∧ δ'[0]? = some (some (.cell μ.length))) :
    ∃ xs cl', xs.length = k ∧ (∀ x ∈ xs, One x) ∧ Sc (m + 1 * k) cl' ∧ ∀ (ρ : Mu) (p : Nat), p = (μ ++ cl :: ρ).length →
      compL (.one 6) (semC S (runS S (n + 1)) .none) (semE S (runS S (n + 1)) dgE) p δ (irange 0 k) (μ ++ cl :: (ρ ++ [.lst []])) = .ok (.cell p) (μ ++ cl' :: (ρ ++ [.lst xs])) := by
  obtain ⟨xs, cl', l, r, s, e⟩ := compL_seq (t := .one 6) (Ft := semC S (runS S (n + 1)) .none) (Fe := semE S (runS S (n + 1)) dgE) (δ := δ) (μ := μ) (P := Sc) (R := One) (s := 1) (B := 8000)
    (fun m cl h hm => by
      obtain ⟨r, c1, s1, r0, r1, e1⟩ := dr (n := n) h 10 (by decide) (by decide) (by omega)
      obtain ⟨c, ix⟩ := ix_str (z := "0123456789") r0 (by rw [dl]; exact r1) dlk
      refine ⟨.str ⟨#[c]⟩, c1, ⟨c, rfl⟩, s1, fun d δ' ed ρ => ⟨rfl, ?_⟩⟩
      obtain ⟨δ2, ed2, e2⟩ := hδ d
      rw [ed] at ed2
      cases ed2
      simp only [dgE, x_ix, x_str, x_call, x_cons, x_nil, x_var, x_int, e2, bind_ok, e1, ix]) (irange 0 k) m cl [] (fun d _ => by obtain ⟨δ', e, _⟩ := hδ d; exact ⟨δ', e⟩) h (by rw [irange_len]; exact hm) (by rw [irange_len]; simp; omega)
  rw [irange_len] at l s
  exact ⟨xs, cl', l, r, s, fun ρ p hp => by rw [e ρ p hp, List.nil_append]⟩
abbrev dgC : JE := .comp [("_law_k", 6)] (.one 6) (.range1 (.bin .Add (.int 1) (.call 7 (.cons (.var 0) (.cons (.int 62) .nil))))) .none dgE
theorem digj {n m : Nat} {cl : Cel} {μ : Mu} (h : Sc m cl) (hm : m ≤ 3000) (x1 x2 x3 x4 x5 x6 : Option D) : ∃ z cl', Sc (m + 63) cl' ∧ 1 ≤ z.length ∧ z.length ≤ 62 ∧ ∀ (ρ : Mu), ∃ c,
    bmS .join (.str "") (semA S (runS S (n + 1)) (.cons dgC .nil) [some (.cell μ.length), x1, x2, x3, x4, x5, x6]) (μ ++ cl :: ρ) = .ok (.str z) (μ ++ cl' :: (ρ ++ [c])) := by
  obtain ⟨r, c1, s1, r0, r1, e1⟩ := dr (n := n) h 62 (by decide) (by decide) (by omega)
  obtain ⟨xs, c2, l, on, s2, e2⟩ := digs_ok (n := n) (k := (1 + r).toNat) (μ := μ) (δ := [some (.cell μ.length), x1, x2, x3, x4, x5, none]) s1 (by omega) (fun d => ⟨_, rfl, rfl⟩)
  obtain ⟨ys, rfl, l2, l1⟩ := ones xs on
  obtain ⟨q1, q2⟩ := join_len ys l1
  refine ⟨Txt.join "" ys, c2, s2.mono (by omega), by omega, by omega, fun ρ => ⟨.lst (ys.map .str), ?_⟩⟩
  have rg : ∀ m, rng1 (.int (1 + r)) m = .ok (irange 0 (1 + r).toNat, []) m := fun m => rng1_ok (by simp [smallI]; omega)
  have ll : (μ ++ c1 :: ρ).length = μ.length + (ρ.length + 1) := by simp
  have wp : wipeD [some (.cell μ.length), x1, x2, x3, x4, x5, x6] [6] = [some (.cell μ.length), x1, x2, x3, x4, x5, none] := rfl
  have e2 := e2 ρ (μ ++ c1 :: ρ).length rfl
  have a1 : μ ++ c1 :: ρ ++ [.lst []] = μ ++ c1 :: (ρ ++ [.lst []]) := by simp
  have ha : semA S (runS S (n + 1)) (.cons dgC .nil) [some (.cell μ.length), x1, x2, x3, x4, x5, x6] (μ ++ cl :: ρ) = .ok [.cell (μ ++ c1 :: ρ).length] (μ ++ c2 :: (ρ ++ [.lst (ys.map .str)])) := by
    simp only [dgC, x_comp, x_irange1, e1, rg, List.map_cons, List.map_nil, wp, compG_nil, a1, e2, x_var, x_int, x_bl, x_str, x_non, x_glo, x_bin, x_un, x_cmp, x_cmp2, asBl_bl, x_and, x_or, x_not, x_ite, x_tup, x_lst, x_lstC, x_call, x_callK, x_mk, x_mkC, x_mkK, x_meth, x_attr, x_ix, x_bi, x_sl, x_fz, x_nil, x_cons, x_onone, asI_int, x_osome, x_tval, x_tand, x_tor, x_tnot, x_iseq, walkR_tup, walkR_lst, walkR_klst, x_irange1, x_irange2, x_itxt, walkT_str, x_ienum, enR_eq, x_izip, forG_nil, x_comp, compG_nil, x_cnone, x_csome, x_bm, x_dnew, wipeD_cons, wipeD_nil, s_set_, s_par_, s_unp_, s_ret_, s_retN_, s_drop_, s_ife_, s_fr_, s_brk_, s_ct_, s_pass_, s_never_, s_setIx_, s_setAttr_, s_nil_, s_cons_, bind_ok, toS_ok, seq_nx, seq_ret, seq_brk, seq_ct, loop_nx, loop_ct, loop_brk, loop_ret, toR_ret, toR_nx, bin_ints, intB_add, intB_sub, biS, toIntS, setAll, List.getElem?_cons_zero, List.getElem?_cons_succ, List.set_cons_zero, List.set_cons_succ, List.map_cons, List.map_nil, List.length_cons, List.length_nil, List.cons_append, List.nil_append, List.append_nil, List.replicate_succ, List.replicate_zero, Nat.reduceAdd, Nat.reduceSub, Nat.zero_add, Nat.reduceLeDiff, if_true, if_false, Bool.false_eq_true, decide_true, decide_false, Bool.not_true, Bool.not_false, x_eFld, x_eIs, s_raise_, s_raise0_, s_aug_, aug_add, aug_sub, s_tryA_, s_tryO_, catchA_nx, catchA_ret, catchA_brk, catchA_ct, catchO_nx, catchO_ret, catchO_brk, catchO_ct, gone_nx, gone_ret, gone_brk, gone_ct, noX_nx, noX_ret, noX_brk, noX_ct, bind_exc, toS_exc, seq_exc, loop_exc, toR_exc, eFldS, eIsS, gl0, gl1, gl2, gl3, gl4, gl5, gl6, xs0_0, xs0_1, xs0_2, xs0_3, xi1, xk1_0, ra1, xs1_0, xs1_1, xs1_2, xs1_3, xi2, xk2_0, xk2_1, ra2, xs2_0, xs2_1, xs2_2, xs2_3, mi3_19, mi3_20, mi3_21, mi3_22, mi3_23, mi3_24, mi3_25, mi3_26, mi3_27, mi3_28, mi3_29, mi3_30, mi3_31, mi3_32, mi3_33, mi3_34, mi3_35, mi3_36, mi3_37, mi3_38, mi3_39, mi3_40, mi3_41, fd3_0, fd3_1, ho3]
  refine jn_ok ha ?_ (by omega)
  have a2 : μ ++ c2 :: (ρ ++ [.lst (ys.map .str)]) = (μ ++ c2 :: ρ) ++ [.lst (ys.map .str)] := by simp
  have a3 : (μ ++ c1 :: ρ).length = (μ ++ c2 :: ρ).length := by simp
  show (match (μ ++ c2 :: (ρ ++ [.lst (ys.map .str)]))[(μ ++ c1 :: ρ).length]? with
    | some (.lst ds) => some ds
    | _ => none) = _
  rw [a2, a3]
  simp
abbrev itx (i : Int) : Str := Str.ofString (toString i)
theorem cat_str {run : Nat → List D → PM D} {a b : Str} {m : Mu} (h : a.length + b.length ≤ 1000000) : binS S run .Add (.str a) (.str b) m = .ok (.str (a ++ b)) m := by
  show (if a.length + b.length ≤ 1000000 then Res.ok (D.str (a ++ b)) m else .stuck) = _
  rw [if_pos h]
theorem itx_len {t : Int} (h0 : 0 ≤ t) (h : t < 12) : (itx t).length ≤ 2 ∧ ∀ m, strS (.int t) m = .ok (.str (itx t)) m := by
  have q : t = 0 ∨ t = 1 ∨ t = 2 ∨ t = 3 ∨ t = 4 ∨ t = 5 ∨ t = 6 ∨ t = 7 ∨ t = 8 ∨ t = 9 ∨ t = 10 ∨ t = 11 := by omega
  rcases q with rfl | rfl | rfl | rfl | rfl | rfl | rfl | rfl | rfl | rfl | rfl | rfl <;> exact ⟨by decide +kernel, fun m => rfl⟩
theorem sg_ok {r : Int} (h0 : 0 ≤ r) (h1 : r < 2) : ∃ s : Str, s.length ≤ 1 ∧ ∀ m, ixF (.tup [.str "", .str "-"]) (.int r) m = .ok (.str s) m := by
  have q : r = 0 ∨ r = 1 := by omega
  rcases q with rfl | rfl
  · exact ⟨"", by decide +kernel, fun m => rfl⟩
  · exact ⟨"-", by decide +kernel, fun m => rfl⟩
theorem l_sl : ("/" : Str).length = 1 := by decide +kernel
theorem l_1 : ("1" : Str).length = 1 := by decide +kernel
theorem l_7 : ("7" : Str).length = 1 := by decide +kernel
theorem one_len (c : Nat) : (⟨#[c]⟩ : Str).length = 1 := rfl
theorem cut_len {z : Str} {lo hi : Option Int} : (cutS z lo hi).length ≤ z.length := cutS_length z lo hi
theorem text_ok {n m : Nat} {cl : Cel} {μ : Mu} (h : Sc m cl) (hm : m ≤ 2000) : ∃ z cl', Sc (m + 140) cl' ∧ z.length ≤ 300 ∧ ∀ ρ : Mu, ∃ ρ', runS S (n + 2) 10 [.cell μ.length] (μ ++ cl :: ρ) = .ok (.str z) (μ ++ cl' :: (ρ ++ ρ')) := by
  obtain ⟨dg, c1, s1, _, d1, e1⟩ := digj (n := n) (μ := μ) h (by omega) none none none none none none
  obtain ⟨r2, c2, s2, r20, r21, e2⟩ := dr (n := n) s1 10 (by decide) (by decide) (by omega)
  obtain ⟨sc, ix⟩ := ix_str (z := "0123456789") r20 (by rw [dl]; exact r21) dlk
  obtain ⟨lg, c3, s3, _, d3, e3⟩ := digj (n := n) (μ := μ) s2 (by omega) (some (.str dg)) (some (.str ⟨#[sc]⟩)) none none none none
  obtain ⟨kd, c4, s4, k0, k1, e4⟩ := dr (n := n) s3 8 (by decide) (by decide) (by omega)
  obtain ⟨r5, c5, s5, r50, r51, e5⟩ := dr (n := n) s4 2 (by decide) (by decide) (by omega)
  obtain ⟨sg, ls, es⟩ := sg_ok r50 r51
  obtain ⟨r6, c6, s6, r60, r61, e6⟩ := dr (n := n) s5 12 (by decide) (by decide) (by omega)
  obtain ⟨l6, t6⟩ := itx_len r60 r61
  have o1 := one_len sc
  have a1 : ∀ c ρ (x y : Cel), μ ++ c :: (ρ ++ [x] ++ [y]) = μ ++ c :: (ρ ++ [x, y]) := fun c ρ x y => by simp
  by_cases q2 : kd < 2
  · refine ⟨sg ++ dg, c5, s5.mono (by omega), by rw [app_len]; omega, fun ρ => ?_⟩
    obtain ⟨x1, j1⟩ := e1 ρ
    obtain ⟨x3, j3⟩ := e3 (ρ ++ [x1])
    refine ⟨[x1, x3], ?_⟩
    have k1 := fun m => cat_str (run := runS S (n + 1)) (a := sg) (b := dg) (m := m) (by omega)
    simp only [dgC, dgE] at j1 j3
    rw [run_raw (fi := f10) rfl rfl rfl]
    simp only [f10, b10, j1, e2, ix, j3, a1, e4, e5, es, c_lt, dt q2, k1, x_var, x_int, x_bl, x_str, x_non, x_glo, x_bin, x_un, x_cmp, x_cmp2, asBl_bl, x_and, x_or, x_not, x_ite, x_tup, x_lst, x_lstC, x_call, x_callK, x_mk, x_mkC, x_mkK, x_meth, x_attr, x_ix, x_bi, x_sl, x_fz, x_nil, x_cons, x_onone, asI_int, x_osome, x_tval, x_tand, x_tor, x_tnot, x_iseq, walkR_tup, walkR_lst, walkR_klst, x_irange1, x_irange2, x_itxt, walkT_str, x_ienum, enR_eq, x_izip, forG_nil, x_comp, compG_nil, x_cnone, x_csome, x_bm, x_dnew, wipeD_cons, wipeD_nil, s_set_, s_par_, s_unp_, s_ret_, s_retN_, s_drop_, s_ife_, s_fr_, s_brk_, s_ct_, s_pass_, s_never_, s_setIx_, s_setAttr_, s_nil_, s_cons_, bind_ok, toS_ok, seq_nx, seq_ret, seq_brk, seq_ct, loop_nx, loop_ct, loop_brk, loop_ret, toR_ret, toR_nx, bin_ints, intB_add, intB_sub, biS, toIntS, setAll, List.getElem?_cons_zero, List.getElem?_cons_succ, List.set_cons_zero, List.set_cons_succ, List.map_cons, List.map_nil, List.length_cons, List.length_nil, List.cons_append, List.nil_append, List.append_nil, List.replicate_succ, List.replicate_zero, Nat.reduceAdd, Nat.reduceSub, Nat.zero_add, Nat.reduceLeDiff, if_true, if_false, Bool.false_eq_true, decide_true, decide_false, Bool.not_true, Bool.not_false, x_eFld, x_eIs, s_raise_, s_raise0_, s_aug_, aug_add, aug_sub, s_tryA_, s_tryO_, catchA_nx, catchA_ret, catchA_brk, catchA_ct, catchO_nx, catchO_ret, catchO_brk, catchO_ct, gone_nx, gone_ret, gone_brk, gone_ct, noX_nx, noX_ret, noX_brk, noX_ct, bind_exc, toS_exc, seq_exc, loop_exc, toR_exc, eFldS, eIsS, gl0, gl1, gl2, gl3, gl4, gl5, gl6, xs0_0, xs0_1, xs0_2, xs0_3, xi1, xk1_0, ra1, xs1_0, xs1_1, xs1_2, xs1_3, xi2, xk2_0, xk2_1, ra2, xs2_0, xs2_1, xs2_2, xs2_3, mi3_19, mi3_20, mi3_21, mi3_22, mi3_23, mi3_24, mi3_25, mi3_26, mi3_27, mi3_28, mi3_29, mi3_30, mi3_31, mi3_32, mi3_33, mi3_34, mi3_35, mi3_36, mi3_37, mi3_38, mi3_39, mi3_40, mi3_41, fd3_0, fd3_1, ho3]
  · by_cases q5 : kd < 5
    · refine ⟨sg ++ ⟨#[sc]⟩ ++ "/" ++ itx r6, c6, s6.mono (by omega), by rw [app_len, app_len, app_len, l_sl]; omega, fun ρ => ?_⟩
      obtain ⟨x1, j1⟩ := e1 ρ
      obtain ⟨x3, j3⟩ := e3 (ρ ++ [x1])
      refine ⟨[x1, x3], ?_⟩
      have k1 := fun m => cat_str (run := runS S (n + 1)) (a := sg) (b := ⟨#[sc]⟩) (m := m) (by omega)
      have k2 := fun m => cat_str (run := runS S (n + 1)) (a := sg ++ ⟨#[sc]⟩) (b := "/") (m := m) (by rw [app_len, l_sl]; omega)
      have k3 := fun m => cat_str (run := runS S (n + 1)) (a := sg ++ ⟨#[sc]⟩ ++ "/") (b := itx r6) (m := m) (by rw [app_len, app_len, l_sl]; omega)
      simp only [dgC, dgE] at j1 j3
      rw [run_raw (fi := f10) rfl rfl rfl]
      simp only [f10, b10, j1, e2, ix, j3, a1, e4, e5, es, c_lt, df q2, dt q5, e6, t6, k1, k2, k3, x_var, x_int, x_bl, x_str, x_non, x_glo, x_bin, x_un, x_cmp, x_cmp2, asBl_bl, x_and, x_or, x_not, x_ite, x_tup, x_lst, x_lstC, x_call, x_callK, x_mk, x_mkC, x_mkK, x_meth, x_attr, x_ix, x_bi, x_sl, x_fz, x_nil, x_cons, x_onone, asI_int, x_osome, x_tval, x_tand, x_tor, x_tnot, x_iseq, walkR_tup, walkR_lst, walkR_klst, x_irange1, x_irange2, x_itxt, walkT_str, x_ienum, enR_eq, x_izip, forG_nil, x_comp, compG_nil, x_cnone, x_csome, x_bm, x_dnew, wipeD_cons, wipeD_nil, s_set_, s_par_, s_unp_, s_ret_, s_retN_, s_drop_, s_ife_, s_fr_, s_brk_, s_ct_, s_pass_, s_never_, s_setIx_, s_setAttr_, s_nil_, s_cons_, bind_ok, toS_ok, seq_nx, seq_ret, seq_brk, seq_ct, loop_nx, loop_ct, loop_brk, loop_ret, toR_ret, toR_nx, bin_ints, intB_add, intB_sub, biS, toIntS, setAll, List.getElem?_cons_zero, List.getElem?_cons_succ, List.set_cons_zero, List.set_cons_succ, List.map_cons, List.map_nil, List.length_cons, List.length_nil, List.cons_append, List.nil_append, List.append_nil, List.replicate_succ, List.replicate_zero, Nat.reduceAdd, Nat.reduceSub, Nat.zero_add, Nat.reduceLeDiff, if_true, if_false, Bool.false_eq_true, decide_true, decide_false, Bool.not_true, Bool.not_false, x_eFld, x_eIs, s_raise_, s_raise0_, s_aug_, aug_add, aug_sub, s_tryA_, s_tryO_, catchA_nx, catchA_ret, catchA_brk, catchA_ct, catchO_nx, catchO_ret, catchO_brk, catchO_ct, gone_nx, gone_ret, gone_brk, gone_ct, noX_nx, noX_ret, noX_brk, noX_ct, bind_exc, toS_exc, seq_exc, loop_exc, toR_exc, eFldS, eIsS, gl0, gl1, gl2, gl3, gl4, gl5, gl6, xs0_0, xs0_1, xs0_2, xs0_3, xi1, xk1_0, ra1, xs1_0, xs1_1, xs1_2, xs1_3, xi2, xk2_0, xk2_1, ra2, xs2_0, xs2_1, xs2_2, xs2_3, mi3_19, mi3_20, mi3_21, mi3_22, mi3_23, mi3_24, mi3_25, mi3_26, mi3_27, mi3_28, mi3_29, mi3_30, mi3_31, mi3_32, mi3_33, mi3_34, mi3_35, mi3_36, mi3_37, mi3_38, mi3_39, mi3_40, mi3_41, fd3_0, fd3_1, ho3]
    · by_cases q55 : kd = 5
      · subst q55
        have cd := cut_len (z := dg) (lo := some 1) (hi := none)
        have cl := cut_len (z := lg) (lo := some 1) (hi := none)
        have sd := fun m => sl_str (z := dg) (b := true) (lo := some 1) (hi := none) (m := m) (by omega)
        have sl := fun m => sl_str (z := lg) (b := true) (lo := some 1) (hi := none) (m := m) (by omega)
        refine ⟨sg ++ "1" ++ cutS dg (some 1) none ++ "/" ++ "7" ++ cutS lg (some 1) none, c5, s5.mono (by omega), by simp only [app_len, l_sl, l_1, l_7]; omega, fun ρ => ?_⟩
        obtain ⟨x1, j1⟩ := e1 ρ
        obtain ⟨x3, j3⟩ := e3 (ρ ++ [x1])
        refine ⟨[x1, x3], ?_⟩
        have k1 := fun m => cat_str (run := runS S (n + 1)) (a := sg) (b := "1") (m := m) (by simp only [l_1]; omega)
        have k2 := fun m => cat_str (run := runS S (n + 1)) (a := sg ++ "1") (b := cutS dg (some 1) none) (m := m) (by simp only [app_len, l_sl, l_1, l_7]; omega)
        have k3 := fun m => cat_str (run := runS S (n + 1)) (a := sg ++ "1" ++ cutS dg (some 1) none) (b := "/") (m := m) (by simp only [app_len, l_sl, l_1, l_7]; omega)
        have k4 := fun m => cat_str (run := runS S (n + 1)) (a := sg ++ "1" ++ cutS dg (some 1) none ++ "/") (b := "7") (m := m) (by simp only [app_len, l_sl, l_1, l_7]; omega)
        have k5 := fun m => cat_str (run := runS S (n + 1)) (a := sg ++ "1" ++ cutS dg (some 1) none ++ "/" ++ "7") (b := cutS lg (some 1) none) (m := m) (by simp only [app_len, l_sl, l_1, l_7]; omega)
        have f2 : decide ((5 : Int) < 2) = false := rfl
        have f5 : decide ((5 : Int) < 5) = false := rfl
        have t5 : decide ((5 : Int) = 5) = true := rfl
        simp only [dgC, dgE] at j1 j3
        rw [run_raw (fi := f10) rfl rfl rfl]
        simp only [f10, b10, j1, e2, ix, j3, a1, e4, e5, es, c_lt, f2, f5, c_eq, t5, sd, sl, k1, k2, k3, k4, k5, x_var, x_int, x_bl, x_str, x_non, x_glo, x_bin, x_un, x_cmp, x_cmp2, asBl_bl, x_and, x_or, x_not, x_ite, x_tup, x_lst, x_lstC, x_call, x_callK, x_mk, x_mkC, x_mkK, x_meth, x_attr, x_ix, x_bi, x_sl, x_fz, x_nil, x_cons, x_onone, asI_int, x_osome, x_tval, x_tand, x_tor, x_tnot, x_iseq, walkR_tup, walkR_lst, walkR_klst, x_irange1, x_irange2, x_itxt, walkT_str, x_ienum, enR_eq, x_izip, forG_nil, x_comp, compG_nil, x_cnone, x_csome, x_bm, x_dnew, wipeD_cons, wipeD_nil, s_set_, s_par_, s_unp_, s_ret_, s_retN_, s_drop_, s_ife_, s_fr_, s_brk_, s_ct_, s_pass_, s_never_, s_setIx_, s_setAttr_, s_nil_, s_cons_, bind_ok, toS_ok, seq_nx, seq_ret, seq_brk, seq_ct, loop_nx, loop_ct, loop_brk, loop_ret, toR_ret, toR_nx, bin_ints, intB_add, intB_sub, biS, toIntS, setAll, List.getElem?_cons_zero, List.getElem?_cons_succ, List.set_cons_zero, List.set_cons_succ, List.map_cons, List.map_nil, List.length_cons, List.length_nil, List.cons_append, List.nil_append, List.append_nil, List.replicate_succ, List.replicate_zero, Nat.reduceAdd, Nat.reduceSub, Nat.zero_add, Nat.reduceLeDiff, if_true, if_false, Bool.false_eq_true, decide_true, decide_false, Bool.not_true, Bool.not_false, x_eFld, x_eIs, s_raise_, s_raise0_, s_aug_, aug_add, aug_sub, s_tryA_, s_tryO_, catchA_nx, catchA_ret, catchA_brk, catchA_ct, catchO_nx, catchO_ret, catchO_brk, catchO_ct, gone_nx, gone_ret, gone_brk, gone_ct, noX_nx, noX_ret, noX_brk, noX_ct, bind_exc, toS_exc, seq_exc, loop_exc, toR_exc, eFldS, eIsS, gl0, gl1, gl2, gl3, gl4, gl5, gl6, xs0_0, xs0_1, xs0_2, xs0_3, xi1, xk1_0, ra1, xs1_0, xs1_1, xs1_2, xs1_3, xi2, xk2_0, xk2_1, ra2, xs2_0, xs2_1, xs2_2, xs2_3, mi3_19, mi3_20, mi3_21, mi3_22, mi3_23, mi3_24, mi3_25, mi3_26, mi3_27, mi3_28, mi3_29, mi3_30, mi3_31, mi3_32, mi3_33, mi3_34, mi3_35, mi3_36, mi3_37, mi3_38, mi3_39, mi3_40, mi3_41, fd3_0, fd3_1, ho3]
      · by_cases q6 : kd = 6
        · refine ⟨sg ++ ⟨#[sc]⟩, c5, s5.mono (by omega), by rw [app_len]; omega, fun ρ => ?_⟩
          obtain ⟨x1, j1⟩ := e1 ρ
          obtain ⟨x3, j3⟩ := e3 (ρ ++ [x1])
          refine ⟨[x1, x3], ?_⟩
          have k1 := fun m => cat_str (run := runS S (n + 1)) (a := sg) (b := ⟨#[sc]⟩) (m := m) (by omega)
          simp only [dgC, dgE] at j1 j3
          rw [run_raw (fi := f10) rfl rfl rfl]
          simp only [f10, b10, j1, e2, ix, j3, a1, e4, e5, es, c_lt, df q2, df q5, c_eq, df q55, dt q6, k1, x_var, x_int, x_bl, x_str, x_non, x_glo, x_bin, x_un, x_cmp, x_cmp2, asBl_bl, x_and, x_or, x_not, x_ite, x_tup, x_lst, x_lstC, x_call, x_callK, x_mk, x_mkC, x_mkK, x_meth, x_attr, x_ix, x_bi, x_sl, x_fz, x_nil, x_cons, x_onone, asI_int, x_osome, x_tval, x_tand, x_tor, x_tnot, x_iseq, walkR_tup, walkR_lst, walkR_klst, x_irange1, x_irange2, x_itxt, walkT_str, x_ienum, enR_eq, x_izip, forG_nil, x_comp, compG_nil, x_cnone, x_csome, x_bm, x_dnew, wipeD_cons, wipeD_nil, s_set_, s_par_, s_unp_, s_ret_, s_retN_, s_drop_, s_ife_, s_fr_, s_brk_, s_ct_, s_pass_, s_never_, s_setIx_, s_setAttr_, s_nil_, s_cons_, bind_ok, toS_ok, seq_nx, seq_ret, seq_brk, seq_ct, loop_nx, loop_ct, loop_brk, loop_ret, toR_ret, toR_nx, bin_ints, intB_add, intB_sub, biS, toIntS, setAll, List.getElem?_cons_zero, List.getElem?_cons_succ, List.set_cons_zero, List.set_cons_succ, List.map_cons, List.map_nil, List.length_cons, List.length_nil, List.cons_append, List.nil_append, List.append_nil, List.replicate_succ, List.replicate_zero, Nat.reduceAdd, Nat.reduceSub, Nat.zero_add, Nat.reduceLeDiff, if_true, if_false, Bool.false_eq_true, decide_true, decide_false, Bool.not_true, Bool.not_false, x_eFld, x_eIs, s_raise_, s_raise0_, s_aug_, aug_add, aug_sub, s_tryA_, s_tryO_, catchA_nx, catchA_ret, catchA_brk, catchA_ct, catchO_nx, catchO_ret, catchO_brk, catchO_ct, gone_nx, gone_ret, gone_brk, gone_ct, noX_nx, noX_ret, noX_brk, noX_ct, bind_exc, toS_exc, seq_exc, loop_exc, toR_exc, eFldS, eIsS, gl0, gl1, gl2, gl3, gl4, gl5, gl6, xs0_0, xs0_1, xs0_2, xs0_3, xi1, xk1_0, ra1, xs1_0, xs1_1, xs1_2, xs1_3, xi2, xk2_0, xk2_1, ra2, xs2_0, xs2_1, xs2_2, xs2_3, mi3_19, mi3_20, mi3_21, mi3_22, mi3_23, mi3_24, mi3_25, mi3_26, mi3_27, mi3_28, mi3_29, mi3_30, mi3_31, mi3_32, mi3_33, mi3_34, mi3_35, mi3_36, mi3_37, mi3_38, mi3_39, mi3_40, mi3_41, fd3_0, fd3_1, ho3]
        · refine ⟨sg ++ dg ++ "/" ++ lg, c5, s5.mono (by omega), by simp only [app_len, l_sl]; omega, fun ρ => ?_⟩
          obtain ⟨x1, j1⟩ := e1 ρ
          obtain ⟨x3, j3⟩ := e3 (ρ ++ [x1])
          refine ⟨[x1, x3], ?_⟩
          have k1 := fun m => cat_str (run := runS S (n + 1)) (a := sg) (b := dg) (m := m) (by omega)
          have k2 := fun m => cat_str (run := runS S (n + 1)) (a := sg ++ dg) (b := "/") (m := m) (by simp only [app_len, l_sl]; omega)
          have k3 := fun m => cat_str (run := runS S (n + 1)) (a := sg ++ dg ++ "/") (b := lg) (m := m) (by simp only [app_len, l_sl]; omega)
          simp only [dgC, dgE] at j1 j3
          rw [run_raw (fi := f10) rfl rfl rfl]
          simp only [f10, b10, j1, e2, ix, j3, a1, e4, e5, es, c_lt, df q2, df q5, c_eq, df q55, df q6, k1, k2, k3, x_var, x_int, x_bl, x_str, x_non, x_glo, x_bin, x_un, x_cmp, x_cmp2, asBl_bl, x_and, x_or, x_not, x_ite, x_tup, x_lst, x_lstC, x_call, x_callK, x_mk, x_mkC, x_mkK, x_meth, x_attr, x_ix, x_bi, x_sl, x_fz, x_nil, x_cons, x_onone, asI_int, x_osome, x_tval, x_tand, x_tor, x_tnot, x_iseq, walkR_tup, walkR_lst, walkR_klst, x_irange1, x_irange2, x_itxt, walkT_str, x_ienum, enR_eq, x_izip, forG_nil, x_comp, compG_nil, x_cnone, x_csome, x_bm, x_dnew, wipeD_cons, wipeD_nil, s_set_, s_par_, s_unp_, s_ret_, s_retN_, s_drop_, s_ife_, s_fr_, s_brk_, s_ct_, s_pass_, s_never_, s_setIx_, s_setAttr_, s_nil_, s_cons_, bind_ok, toS_ok, seq_nx, seq_ret, seq_brk, seq_ct, loop_nx, loop_ct, loop_brk, loop_ret, toR_ret, toR_nx, bin_ints, intB_add, intB_sub, biS, toIntS, setAll, List.getElem?_cons_zero, List.getElem?_cons_succ, List.set_cons_zero, List.set_cons_succ, List.map_cons, List.map_nil, List.length_cons, List.length_nil, List.cons_append, List.nil_append, List.append_nil, List.replicate_succ, List.replicate_zero, Nat.reduceAdd, Nat.reduceSub, Nat.zero_add, Nat.reduceLeDiff, if_true, if_false, Bool.false_eq_true, decide_true, decide_false, Bool.not_true, Bool.not_false, x_eFld, x_eIs, s_raise_, s_raise0_, s_aug_, aug_add, aug_sub, s_tryA_, s_tryO_, catchA_nx, catchA_ret, catchA_brk, catchA_ct, catchO_nx, catchO_ret, catchO_brk, catchO_ct, gone_nx, gone_ret, gone_brk, gone_ct, noX_nx, noX_ret, noX_brk, noX_ct, bind_exc, toS_exc, seq_exc, loop_exc, toR_exc, eFldS, eIsS, gl0, gl1, gl2, gl3, gl4, gl5, gl6, xs0_0, xs0_1, xs0_2, xs0_3, xi1, xk1_0, ra1, xs1_0, xs1_1, xs1_2, xs1_3, xi2, xk2_0, xk2_1, ra2, xs2_0, xs2_1, xs2_2, xs2_3, mi3_19, mi3_20, mi3_21, mi3_22, mi3_23, mi3_24, mi3_25, mi3_26, mi3_27, mi3_28, mi3_29, mi3_30, mi3_31, mi3_32, mi3_33, mi3_34, mi3_35, mi3_36, mi3_37, mi3_38, mi3_39, mi3_40, mi3_41, fd3_0, fd3_1, ho3]
/-! a change -/
abbrev sgs : Str := " !\"#$&'()*+,-./0123456789:;<=>?@ABCDEFGHIJKLMNOPQRSTUVWXYZ[\\]^_`abcdefghijklmnopqrstuvwxyz{|}~\n\t"
theorem sgs_len : (96 : Int) ≤ (sgs.length : Nat) := by decide +kernel
theorem sgs_k : sgs.length ≤ 1000000 := by decide +kernel
theorem ed_len : (("0123456789-/" : Str).length : Int) = 12 := by decide +kernel
theorem ed_k : ("0123456789-/" : Str).length ≤ 1000000 := by decide +kernel
theorem hi_len {z : Str} {k : Nat} (h : k ≤ z.length) : (cutS z none (some (k : Int))).length = k := by
  rw [TL.len_tl, cut_hi, List.length_take, ← TL.len_tl]
  omega
theorem lo_len {z : Str} {k : Nat} : (cutS z (some (k : Int)) none).length = z.length - k := by
  rw [TL.len_tl, cut_lo, List.length_drop, ← TL.len_tl]
theorem changed_ok {n m : Nat} {cl : Cel} {z : Str} (h : Sc m cl) (hm : m ≤ 3000) (hz : z.length ≤ 1000) : ∃ z' cl', Sc (m + 5) cl' ∧ z'.length ≤ z.length + 1 ∧ ∀ μ ρ : Mu, runS S (n + 2) 11 [.cell μ.length, .str z] (μ ++ cl :: ρ) = .ok (.str z') (μ ++ cl' :: ρ) := by
  obtain ⟨r1, c1, s1, a0, a1, e1⟩ := dr (n := n) h 96 (by decide) (by decide) (by omega)
  have sl := sgs_len
  obtain ⟨g1, i1⟩ := ix_str (z := sgs) a0 (by omega) sgs_k
  obtain ⟨r2, c2, s2, b0, b1, e2⟩ := dr (n := n) s1 2 (by decide) (by decide) (by omega)
  have st : ∃ (g : Nat) (c3 : Cel), Sc (m + 3) c3 ∧ ∀ μ ρ : Mu, semS S (runS S (n + 1)) (.ife (.val (.cmp .Eq (.call 7 (.cons (.var 0) (.cons (.int 2) .nil))) (.int 0))) (.cons (.set 3 (.ix (.str "0123456789-/") (.call 7 (.cons (.var 0) (.cons (.int 12) .nil))))) .nil) .nil) [some (.cell μ.length), some (.str z), some (.str sgs), some (.str ⟨#[g1]⟩), none, none] (μ ++ c1 :: ρ) = .nx [some (.cell μ.length), some (.str z), some (.str sgs), some (.str ⟨#[g]⟩), none, none] (μ ++ c3 :: ρ) := by
    by_cases q : r2 = 0
    · obtain ⟨r3, c3, s3, d0, d1, e3⟩ := dr (n := n) s2 12 (by decide) (by decide) (by omega)
      obtain ⟨g2, i2⟩ := ix_str (z := "0123456789-/") d0 (by rw [ed_len]; exact d1) ed_k
      exact ⟨g2, c3, s3, fun μ ρ => by simp only [e2, c_eq, dt q, e3, i2, x_var, x_int, x_bl, x_str, x_non, x_glo, x_bin, x_un, x_cmp, x_cmp2, asBl_bl, x_and, x_or, x_not, x_ite, x_tup, x_lst, x_lstC, x_call, x_callK, x_mk, x_mkC, x_mkK, x_meth, x_attr, x_ix, x_bi, x_sl, x_fz, x_nil, x_cons, x_onone, asI_int, x_osome, x_tval, x_tand, x_tor, x_tnot, x_iseq, walkR_tup, walkR_lst, walkR_klst, x_irange1, x_irange2, x_itxt, walkT_str, x_ienum, enR_eq, x_izip, forG_nil, x_comp, compG_nil, x_cnone, x_csome, x_bm, x_dnew, wipeD_cons, wipeD_nil, s_set_, s_par_, s_unp_, s_ret_, s_retN_, s_drop_, s_ife_, s_fr_, s_brk_, s_ct_, s_pass_, s_never_, s_setIx_, s_setAttr_, s_nil_, s_cons_, bind_ok, toS_ok, seq_nx, seq_ret, seq_brk, seq_ct, loop_nx, loop_ct, loop_brk, loop_ret, toR_ret, toR_nx, bin_ints, intB_add, intB_sub, biS, toIntS, setAll, List.getElem?_cons_zero, List.getElem?_cons_succ, List.set_cons_zero, List.set_cons_succ, List.map_cons, List.map_nil, List.length_cons, List.length_nil, List.cons_append, List.nil_append, List.append_nil, List.replicate_succ, List.replicate_zero, Nat.reduceAdd, Nat.reduceSub, Nat.zero_add, Nat.reduceLeDiff, if_true, if_false, Bool.false_eq_true, decide_true, decide_false, Bool.not_true, Bool.not_false, x_eFld, x_eIs, s_raise_, s_raise0_, s_aug_, aug_add, aug_sub, s_tryA_, s_tryO_, catchA_nx, catchA_ret, catchA_brk, catchA_ct, catchO_nx, catchO_ret, catchO_brk, catchO_ct, gone_nx, gone_ret, gone_brk, gone_ct, noX_nx, noX_ret, noX_brk, noX_ct, bind_exc, toS_exc, seq_exc, loop_exc, toR_exc, eFldS, eIsS, gl0, gl1, gl2, gl3, gl4, gl5, gl6, xs0_0, xs0_1, xs0_2, xs0_3, xi1, xk1_0, ra1, xs1_0, xs1_1, xs1_2, xs1_3, xi2, xk2_0, xk2_1, ra2, xs2_0, xs2_1, xs2_2, xs2_3, mi3_19, mi3_20, mi3_21, mi3_22, mi3_23, mi3_24, mi3_25, mi3_26, mi3_27, mi3_28, mi3_29, mi3_30, mi3_31, mi3_32, mi3_33, mi3_34, mi3_35, mi3_36, mi3_37, mi3_38, mi3_39, mi3_40, mi3_41, fd3_0, fd3_1, ho3]⟩
    · exact ⟨g1, c2, s2.mono (by omega), fun μ ρ => by simp only [e2, c_eq, df q, x_var, x_int, x_bl, x_str, x_non, x_glo, x_bin, x_un, x_cmp, x_cmp2, asBl_bl, x_and, x_or, x_not, x_ite, x_tup, x_lst, x_lstC, x_call, x_callK, x_mk, x_mkC, x_mkK, x_meth, x_attr, x_ix, x_bi, x_sl, x_fz, x_nil, x_cons, x_onone, asI_int, x_osome, x_tval, x_tand, x_tor, x_tnot, x_iseq, walkR_tup, walkR_lst, walkR_klst, x_irange1, x_irange2, x_itxt, walkT_str, x_ienum, enR_eq, x_izip, forG_nil, x_comp, compG_nil, x_cnone, x_csome, x_bm, x_dnew, wipeD_cons, wipeD_nil, s_set_, s_par_, s_unp_, s_ret_, s_retN_, s_drop_, s_ife_, s_fr_, s_brk_, s_ct_, s_pass_, s_never_, s_setIx_, s_setAttr_, s_nil_, s_cons_, bind_ok, toS_ok, seq_nx, seq_ret, seq_brk, seq_ct, loop_nx, loop_ct, loop_brk, loop_ret, toR_ret, toR_nx, bin_ints, intB_add, intB_sub, biS, toIntS, setAll, List.getElem?_cons_zero, List.getElem?_cons_succ, List.set_cons_zero, List.set_cons_succ, List.map_cons, List.map_nil, List.length_cons, List.length_nil, List.cons_append, List.nil_append, List.append_nil, List.replicate_succ, List.replicate_zero, Nat.reduceAdd, Nat.reduceSub, Nat.zero_add, Nat.reduceLeDiff, if_true, if_false, Bool.false_eq_true, decide_true, decide_false, Bool.not_true, Bool.not_false, x_eFld, x_eIs, s_raise_, s_raise0_, s_aug_, aug_add, aug_sub, s_tryA_, s_tryO_, catchA_nx, catchA_ret, catchA_brk, catchA_ct, catchO_nx, catchO_ret, catchO_brk, catchO_ct, gone_nx, gone_ret, gone_brk, gone_ct, noX_nx, noX_ret, noX_brk, noX_ct, bind_exc, toS_exc, seq_exc, loop_exc, toR_exc, eFldS, eIsS, gl0, gl1, gl2, gl3, gl4, gl5, gl6, xs0_0, xs0_1, xs0_2, xs0_3, xi1, xk1_0, ra1, xs1_0, xs1_1, xs1_2, xs1_3, xi2, xk2_0, xk2_1, ra2, xs2_0, xs2_1, xs2_2, xs2_3, mi3_19, mi3_20, mi3_21, mi3_22, mi3_23, mi3_24, mi3_25, mi3_26, mi3_27, mi3_28, mi3_29, mi3_30, mi3_31, mi3_32, mi3_33, mi3_34, mi3_35, mi3_36, mi3_37, mi3_38, mi3_39, mi3_40, mi3_41, fd3_0, fd3_1, ho3]⟩
  obtain ⟨g, c3, s3, st⟩ := st
  obtain ⟨at', c4, s4, f0, f1, e4⟩ := dr (n := n) s3 ((z.length : Nat) + 1) (by omega) (by omega) (by omega)
  obtain ⟨k, rfl⟩ : ∃ k : Nat, at' = (k : Int) := ⟨at'.toNat, by omega⟩
  obtain ⟨hw, c5, s5, h0, h1, e5⟩ := dr (n := n) s4 3 (by decide) (by decide) (by omega)
  have ln := fun m => len_str (z := z) (m := m) (by omega)
  have h_ := fun m => sl_str (z := z) (b := true) (lo := none) (hi := some (k : Int)) (m := m) (by omega)
  have l_ := fun m => sl_str (z := z) (b := true) (lo := some (k : Int)) (hi := none) (m := m) (by omega)
  have p_ := fun m => sl_str (z := z) (b := true) (lo := some ((k : Int) + 1)) (hi := none) (m := m) (by omega)
  have lh := hi_len (z := z) (k := k) (by omega)
  have ll := lo_len (z := z) (k := k)
  have lp := lo_len (z := z) (k := k + 1)
  rw [Int.natCast_add, Int.natCast_one] at lp
  have o1 := one_len g
  generalize cutS z none (some (k : Int)) = A at *
  generalize cutS z (some (k : Int)) none = B at *
  generalize cutS z (some ((k : Int) + 1)) none = C at *
  have k1 := fun m => cat_str (run := runS S (n + 1)) (a := A) (b := ⟨#[g]⟩) (m := m) (by omega)
  have k2 := fun m => cat_str (run := runS S (n + 1)) (a := A ++ ⟨#[g]⟩) (b := B) (m := m) (by rw [app_len]; omega)
  have k3 := fun m => cat_str (run := runS S (n + 1)) (a := A ++ ⟨#[g]⟩) (b := C) (m := m) (by rw [app_len]; omega)
  have k4 := fun m => cat_str (run := runS S (n + 1)) (a := A) (b := C) (m := m) (by omega)
  by_cases q0 : hw = 0
  · refine ⟨A ++ ⟨#[g]⟩ ++ B, c5, s5, by simp only [app_len]; omega, fun μ ρ => ?_⟩
    rw [run_raw (fi := f11) rfl rfl rfl]
    simp only [f11, b11, e1, i1, st, ln, e4, e5, c_eq, dt q0, h_, l_, k1, k2, x_var, x_int, x_bl, x_str, x_non, x_glo, x_bin, x_un, x_cmp, x_cmp2, asBl_bl, x_and, x_or, x_not, x_ite, x_tup, x_lst, x_lstC, x_call, x_callK, x_mk, x_mkC, x_mkK, x_meth, x_attr, x_ix, x_bi, x_sl, x_fz, x_nil, x_cons, x_onone, asI_int, x_osome, x_tval, x_tand, x_tor, x_tnot, x_iseq, walkR_tup, walkR_lst, walkR_klst, x_irange1, x_irange2, x_itxt, walkT_str, x_ienum, enR_eq, x_izip, forG_nil, x_comp, compG_nil, x_cnone, x_csome, x_bm, x_dnew, wipeD_cons, wipeD_nil, s_set_, s_par_, s_unp_, s_ret_, s_retN_, s_drop_, s_ife_, s_fr_, s_brk_, s_ct_, s_pass_, s_never_, s_setIx_, s_setAttr_, s_nil_, s_cons_, bind_ok, toS_ok, seq_nx, seq_ret, seq_brk, seq_ct, loop_nx, loop_ct, loop_brk, loop_ret, toR_ret, toR_nx, bin_ints, intB_add, intB_sub, biS, toIntS, setAll, List.getElem?_cons_zero, List.getElem?_cons_succ, List.set_cons_zero, List.set_cons_succ, List.map_cons, List.map_nil, List.length_cons, List.length_nil, List.cons_append, List.nil_append, List.append_nil, List.replicate_succ, List.replicate_zero, Nat.reduceAdd, Nat.reduceSub, Nat.zero_add, Nat.reduceLeDiff, if_true, if_false, Bool.false_eq_true, decide_true, decide_false, Bool.not_true, Bool.not_false, x_eFld, x_eIs, s_raise_, s_raise0_, s_aug_, aug_add, aug_sub, s_tryA_, s_tryO_, catchA_nx, catchA_ret, catchA_brk, catchA_ct, catchO_nx, catchO_ret, catchO_brk, catchO_ct, gone_nx, gone_ret, gone_brk, gone_ct, noX_nx, noX_ret, noX_brk, noX_ct, bind_exc, toS_exc, seq_exc, loop_exc, toR_exc, eFldS, eIsS, gl0, gl1, gl2, gl3, gl4, gl5, gl6, xs0_0, xs0_1, xs0_2, xs0_3, xi1, xk1_0, ra1, xs1_0, xs1_1, xs1_2, xs1_3, xi2, xk2_0, xk2_1, ra2, xs2_0, xs2_1, xs2_2, xs2_3, mi3_19, mi3_20, mi3_21, mi3_22, mi3_23, mi3_24, mi3_25, mi3_26, mi3_27, mi3_28, mi3_29, mi3_30, mi3_31, mi3_32, mi3_33, mi3_34, mi3_35, mi3_36, mi3_37, mi3_38, mi3_39, mi3_40, mi3_41, fd3_0, fd3_1, ho3]
  · by_cases q1 : hw = 1
    · refine ⟨A ++ ⟨#[g]⟩ ++ C, c5, s5, by simp only [app_len]; omega, fun μ ρ => ?_⟩
      rw [run_raw (fi := f11) rfl rfl rfl]
      simp only [f11, b11, e1, i1, st, ln, e4, e5, c_eq, df q0, dt q1, h_, p_, k1, k3, x_var, x_int, x_bl, x_str, x_non, x_glo, x_bin, x_un, x_cmp, x_cmp2, asBl_bl, x_and, x_or, x_not, x_ite, x_tup, x_lst, x_lstC, x_call, x_callK, x_mk, x_mkC, x_mkK, x_meth, x_attr, x_ix, x_bi, x_sl, x_fz, x_nil, x_cons, x_onone, asI_int, x_osome, x_tval, x_tand, x_tor, x_tnot, x_iseq, walkR_tup, walkR_lst, walkR_klst, x_irange1, x_irange2, x_itxt, walkT_str, x_ienum, enR_eq, x_izip, forG_nil, x_comp, compG_nil, x_cnone, x_csome, x_bm, x_dnew, wipeD_cons, wipeD_nil, s_set_, s_par_, s_unp_, s_ret_, s_retN_, s_drop_, s_ife_, s_fr_, s_brk_, s_ct_, s_pass_, s_never_, s_setIx_, s_setAttr_, s_nil_, s_cons_, bind_ok, toS_ok, seq_nx, seq_ret, seq_brk, seq_ct, loop_nx, loop_ct, loop_brk, loop_ret, toR_ret, toR_nx, bin_ints, intB_add, intB_sub, biS, toIntS, setAll, List.getElem?_cons_zero, List.getElem?_cons_succ, List.set_cons_zero, List.set_cons_succ, List.map_cons, List.map_nil, List.length_cons, List.length_nil, List.cons_append, List.nil_append, List.append_nil, List.replicate_succ, List.replicate_zero, Nat.reduceAdd, Nat.reduceSub, Nat.zero_add, Nat.reduceLeDiff, if_true, if_false, Bool.false_eq_true, decide_true, decide_false, Bool.not_true, Bool.not_false, x_eFld, x_eIs, s_raise_, s_raise0_, s_aug_, aug_add, aug_sub, s_tryA_, s_tryO_, catchA_nx, catchA_ret, catchA_brk, catchA_ct, catchO_nx, catchO_ret, catchO_brk, catchO_ct, gone_nx, gone_ret, gone_brk, gone_ct, noX_nx, noX_ret, noX_brk, noX_ct, bind_exc, toS_exc, seq_exc, loop_exc, toR_exc, eFldS, eIsS, gl0, gl1, gl2, gl3, gl4, gl5, gl6, xs0_0, xs0_1, xs0_2, xs0_3, xi1, xk1_0, ra1, xs1_0, xs1_1, xs1_2, xs1_3, xi2, xk2_0, xk2_1, ra2, xs2_0, xs2_1, xs2_2, xs2_3, mi3_19, mi3_20, mi3_21, mi3_22, mi3_23, mi3_24, mi3_25, mi3_26, mi3_27, mi3_28, mi3_29, mi3_30, mi3_31, mi3_32, mi3_33, mi3_34, mi3_35, mi3_36, mi3_37, mi3_38, mi3_39, mi3_40, mi3_41, fd3_0, fd3_1, ho3]
    · refine ⟨A ++ C, c5, s5, by simp only [app_len]; omega, fun μ ρ => ?_⟩
      rw [run_raw (fi := f11) rfl rfl rfl]
      simp only [f11, b11, e1, i1, st, ln, e4, e5, c_eq, df q0, df q1, h_, p_, k4, x_var, x_int, x_bl, x_str, x_non, x_glo, x_bin, x_un, x_cmp, x_cmp2, asBl_bl, x_and, x_or, x_not, x_ite, x_tup, x_lst, x_lstC, x_call, x_callK, x_mk, x_mkC, x_mkK, x_meth, x_attr, x_ix, x_bi, x_sl, x_fz, x_nil, x_cons, x_onone, asI_int, x_osome, x_tval, x_tand, x_tor, x_tnot, x_iseq, walkR_tup, walkR_lst, walkR_klst, x_irange1, x_irange2, x_itxt, walkT_str, x_ienum, enR_eq, x_izip, forG_nil, x_comp, compG_nil, x_cnone, x_csome, x_bm, x_dnew, wipeD_cons, wipeD_nil, s_set_, s_par_, s_unp_, s_ret_, s_retN_, s_drop_, s_ife_, s_fr_, s_brk_, s_ct_, s_pass_, s_never_, s_setIx_, s_setAttr_, s_nil_, s_cons_, bind_ok, toS_ok, seq_nx, seq_ret, seq_brk, seq_ct, loop_nx, loop_ct, loop_brk, loop_ret, toR_ret, toR_nx, bin_ints, intB_add, intB_sub, biS, toIntS, setAll, List.getElem?_cons_zero, List.getElem?_cons_succ, List.set_cons_zero, List.set_cons_succ, List.map_cons, List.map_nil, List.length_cons, List.length_nil, List.cons_append, List.nil_append, List.append_nil, List.replicate_succ, List.replicate_zero, Nat.reduceAdd, Nat.reduceSub, Nat.zero_add, Nat.reduceLeDiff, if_true, if_false, Bool.false_eq_true, decide_true, decide_false, Bool.not_true, Bool.not_false, x_eFld, x_eIs, s_raise_, s_raise0_, s_aug_, aug_add, aug_sub, s_tryA_, s_tryO_, catchA_nx, catchA_ret, catchA_brk, catchA_ct, catchO_nx, catchO_ret, catchO_brk, catchO_ct, gone_nx, gone_ret, gone_brk, gone_ct, noX_nx, noX_ret, noX_brk, noX_ct, bind_exc, toS_exc, seq_exc, loop_exc, toR_exc, eFldS, eIsS, gl0, gl1, gl2, gl3, gl4, gl5, gl6, xs0_0, xs0_1, xs0_2, xs0_3, xi1, xk1_0, ra1, xs1_0, xs1_1, xs1_2, xs1_3, xi2, xk2_0, xk2_1, ra2, xs2_0, xs2_1, xs2_2, xs2_3, mi3_19, mi3_20, mi3_21, mi3_22, mi3_23, mi3_24, mi3_25, mi3_26, mi3_27, mi3_28, mi3_29, mi3_30, mi3_31, mi3_32, mi3_33, mi3_34, mi3_35, mi3_36, mi3_37, mi3_38, mi3_39, mi3_40, mi3_41, fd3_0, fd3_1, ho3]
end K04
namespace K04
open PySem PySem.Spec PyProof.Rows L2 L3
/-! ### the law's calls -/
theorem isi_nonR {μ : Mu} : isiS S .non (.fn 1003) μ = .ok (.bl false) μ := rfl
theorem lread_ok {n : Nat} {z : Str} {o : Option (Int × Int)} {μ : Mu} (hz : z.length ≤ 999990) (h : outZ z o) : runS S (n + 4) 14 [.str z] μ = .ok (dueO o) μ := by
  have rd := read_ok (n := n) (μ := μ) hz h
  rw [run_raw (fi := f14) rfl rfl rfl]
  cases o with
  | some p => simp only [f14, b14, rd, ratO, isi_ratR, attr_top, attr_bot, dueO, x_var, x_int, x_bl, x_str, x_non, x_glo, x_bin, x_un, x_cmp, x_cmp2, asBl_bl, x_and, x_or, x_not, x_ite, x_tup, x_lst, x_lstC, x_call, x_callK, x_mk, x_mkC, x_mkK, x_meth, x_attr, x_ix, x_bi, x_sl, x_fz, x_nil, x_cons, x_onone, asI_int, x_osome, x_tval, x_tand, x_tor, x_tnot, x_iseq, walkR_tup, walkR_lst, walkR_klst, x_irange1, x_irange2, x_itxt, walkT_str, x_ienum, enR_eq, x_izip, forG_nil, x_comp, compG_nil, x_cnone, x_csome, x_bm, x_dnew, wipeD_cons, wipeD_nil, s_set_, s_par_, s_unp_, s_ret_, s_retN_, s_drop_, s_ife_, s_fr_, s_brk_, s_ct_, s_pass_, s_never_, s_setIx_, s_setAttr_, s_nil_, s_cons_, bind_ok, toS_ok, seq_nx, seq_ret, seq_brk, seq_ct, loop_nx, loop_ct, loop_brk, loop_ret, toR_ret, toR_nx, bin_ints, intB_add, intB_sub, biS, toIntS, setAll, List.getElem?_cons_zero, List.getElem?_cons_succ, List.set_cons_zero, List.set_cons_succ, List.map_cons, List.map_nil, List.length_cons, List.length_nil, List.cons_append, List.nil_append, List.append_nil, List.replicate_succ, List.replicate_zero, Nat.reduceAdd, Nat.reduceSub, Nat.zero_add, Nat.reduceLeDiff, if_true, if_false, Bool.false_eq_true, decide_true, decide_false, Bool.not_true, Bool.not_false, x_eFld, x_eIs, s_raise_, s_raise0_, s_aug_, aug_add, aug_sub, s_tryA_, s_tryO_, catchA_nx, catchA_ret, catchA_brk, catchA_ct, catchO_nx, catchO_ret, catchO_brk, catchO_ct, gone_nx, gone_ret, gone_brk, gone_ct, noX_nx, noX_ret, noX_brk, noX_ct, bind_exc, toS_exc, seq_exc, loop_exc, toR_exc, eFldS, eIsS, gl0, gl1, gl2, gl3, gl4, gl5, gl6, xs0_0, xs0_1, xs0_2, xs0_3, xi1, xk1_0, ra1, xs1_0, xs1_1, xs1_2, xs1_3, xi2, xk2_0, xk2_1, ra2, xs2_0, xs2_1, xs2_2, xs2_3, mi3_19, mi3_20, mi3_21, mi3_22, mi3_23, mi3_24, mi3_25, mi3_26, mi3_27, mi3_28, mi3_29, mi3_30, mi3_31, mi3_32, mi3_33, mi3_34, mi3_35, mi3_36, mi3_37, mi3_38, mi3_39, mi3_40, mi3_41, fd3_0, fd3_1, ho3]
  | none => simp only [f14, b14, rd, ratO, catchA_exc xs1_0, isi_nonR, dueO, x_var, x_int, x_bl, x_str, x_non, x_glo, x_bin, x_un, x_cmp, x_cmp2, asBl_bl, x_and, x_or, x_not, x_ite, x_tup, x_lst, x_lstC, x_call, x_callK, x_mk, x_mkC, x_mkK, x_meth, x_attr, x_ix, x_bi, x_sl, x_fz, x_nil, x_cons, x_onone, asI_int, x_osome, x_tval, x_tand, x_tor, x_tnot, x_iseq, walkR_tup, walkR_lst, walkR_klst, x_irange1, x_irange2, x_itxt, walkT_str, x_ienum, enR_eq, x_izip, forG_nil, x_comp, compG_nil, x_cnone, x_csome, x_bm, x_dnew, wipeD_cons, wipeD_nil, s_set_, s_par_, s_unp_, s_ret_, s_retN_, s_drop_, s_ife_, s_fr_, s_brk_, s_ct_, s_pass_, s_never_, s_setIx_, s_setAttr_, s_nil_, s_cons_, bind_ok, toS_ok, seq_nx, seq_ret, seq_brk, seq_ct, loop_nx, loop_ct, loop_brk, loop_ret, toR_ret, toR_nx, bin_ints, intB_add, intB_sub, biS, toIntS, setAll, List.getElem?_cons_zero, List.getElem?_cons_succ, List.set_cons_zero, List.set_cons_succ, List.map_cons, List.map_nil, List.length_cons, List.length_nil, List.cons_append, List.nil_append, List.append_nil, List.replicate_succ, List.replicate_zero, Nat.reduceAdd, Nat.reduceSub, Nat.zero_add, Nat.reduceLeDiff, if_true, if_false, Bool.false_eq_true, decide_true, decide_false, Bool.not_true, Bool.not_false, x_eFld, x_eIs, s_raise_, s_raise0_, s_aug_, aug_add, aug_sub, s_tryA_, s_tryO_, catchA_nx, catchA_ret, catchA_brk, catchA_ct, catchO_nx, catchO_ret, catchO_brk, catchO_ct, gone_nx, gone_ret, gone_brk, gone_ct, noX_nx, noX_ret, noX_brk, noX_ct, bind_exc, toS_exc, seq_exc, loop_exc, toR_exc, eFldS, eIsS, gl0, gl1, gl2, gl3, gl4, gl5, gl6, xs0_0, xs0_1, xs0_2, xs0_3, xi1, xk1_0, ra1, xs1_0, xs1_1, xs1_2, xs1_3, xi2, xk2_0, xk2_1, ra2, xs2_0, xs2_1, xs2_2, xs2_3, mi3_19, mi3_20, mi3_21, mi3_22, mi3_23, mi3_24, mi3_25, mi3_26, mi3_27, mi3_28, mi3_29, mi3_30, mi3_31, mi3_32, mi3_33, mi3_34, mi3_35, mi3_36, mi3_37, mi3_38, mi3_39, mi3_40, mi3_41, fd3_0, fd3_1, ho3]
theorem lread_bad {n : Nat} {x : D} {μ : Mu} (h : isiS S x (.ty "str") μ = .ok (.bl false) μ) : runS S (n + 4) 14 [x] μ = .ok refT μ := by
  have rd : runS S (n + 3) 42 [x] μ = exw "text" μ := by
    rw [run_raw (fi := f42) rfl rfl rfl]
    simp only [f42, b42, h, x_var, x_int, x_bl, x_str, x_non, x_glo, x_bin, x_un, x_cmp, x_cmp2, asBl_bl, x_and, x_or, x_not, x_ite, x_tup, x_lst, x_lstC, x_call, x_callK, x_mk, x_mkC, x_mkK, x_meth, x_attr, x_ix, x_bi, x_sl, x_fz, x_nil, x_cons, x_onone, asI_int, x_osome, x_tval, x_tand, x_tor, x_tnot, x_iseq, walkR_tup, walkR_lst, walkR_klst, x_irange1, x_irange2, x_itxt, walkT_str, x_ienum, enR_eq, x_izip, forG_nil, x_comp, compG_nil, x_cnone, x_csome, x_bm, x_dnew, wipeD_cons, wipeD_nil, s_set_, s_par_, s_unp_, s_ret_, s_retN_, s_drop_, s_ife_, s_fr_, s_brk_, s_ct_, s_pass_, s_never_, s_setIx_, s_setAttr_, s_nil_, s_cons_, bind_ok, toS_ok, seq_nx, seq_ret, seq_brk, seq_ct, loop_nx, loop_ct, loop_brk, loop_ret, toR_ret, toR_nx, bin_ints, intB_add, intB_sub, biS, toIntS, setAll, List.getElem?_cons_zero, List.getElem?_cons_succ, List.set_cons_zero, List.set_cons_succ, List.map_cons, List.map_nil, List.length_cons, List.length_nil, List.cons_append, List.nil_append, List.append_nil, List.replicate_succ, List.replicate_zero, Nat.reduceAdd, Nat.reduceSub, Nat.zero_add, Nat.reduceLeDiff, if_true, if_false, Bool.false_eq_true, decide_true, decide_false, Bool.not_true, Bool.not_false, x_eFld, x_eIs, s_raise_, s_raise0_, s_aug_, aug_add, aug_sub, s_tryA_, s_tryO_, catchA_nx, catchA_ret, catchA_brk, catchA_ct, catchO_nx, catchO_ret, catchO_brk, catchO_ct, gone_nx, gone_ret, gone_brk, gone_ct, noX_nx, noX_ret, noX_brk, noX_ct, bind_exc, toS_exc, seq_exc, loop_exc, toR_exc, eFldS, eIsS, gl0, gl1, gl2, gl3, gl4, gl5, gl6, xs0_0, xs0_1, xs0_2, xs0_3, xi1, xk1_0, ra1, xs1_0, xs1_1, xs1_2, xs1_3, xi2, xk2_0, xk2_1, ra2, xs2_0, xs2_1, xs2_2, xs2_3, mi3_19, mi3_20, mi3_21, mi3_22, mi3_23, mi3_24, mi3_25, mi3_26, mi3_27, mi3_28, mi3_29, mi3_30, mi3_31, mi3_32, mi3_33, mi3_34, mi3_35, mi3_36, mi3_37, mi3_38, mi3_39, mi3_40, mi3_41, fd3_0, fd3_1, ho3]
  rw [run_raw (fi := f14) rfl rfl rfl]
  simp only [f14, b14, rd, catchA_exc xs1_0, isi_nonR, x_var, x_int, x_bl, x_str, x_non, x_glo, x_bin, x_un, x_cmp, x_cmp2, asBl_bl, x_and, x_or, x_not, x_ite, x_tup, x_lst, x_lstC, x_call, x_callK, x_mk, x_mkC, x_mkK, x_meth, x_attr, x_ix, x_bi, x_sl, x_fz, x_nil, x_cons, x_onone, asI_int, x_osome, x_tval, x_tand, x_tor, x_tnot, x_iseq, walkR_tup, walkR_lst, walkR_klst, x_irange1, x_irange2, x_itxt, walkT_str, x_ienum, enR_eq, x_izip, forG_nil, x_comp, compG_nil, x_cnone, x_csome, x_bm, x_dnew, wipeD_cons, wipeD_nil, s_set_, s_par_, s_unp_, s_ret_, s_retN_, s_drop_, s_ife_, s_fr_, s_brk_, s_ct_, s_pass_, s_never_, s_setIx_, s_setAttr_, s_nil_, s_cons_, bind_ok, toS_ok, seq_nx, seq_ret, seq_brk, seq_ct, loop_nx, loop_ct, loop_brk, loop_ret, toR_ret, toR_nx, bin_ints, intB_add, intB_sub, biS, toIntS, setAll, List.getElem?_cons_zero, List.getElem?_cons_succ, List.set_cons_zero, List.set_cons_succ, List.map_cons, List.map_nil, List.length_cons, List.length_nil, List.cons_append, List.nil_append, List.append_nil, List.replicate_succ, List.replicate_zero, Nat.reduceAdd, Nat.reduceSub, Nat.zero_add, Nat.reduceLeDiff, if_true, if_false, Bool.false_eq_true, decide_true, decide_false, Bool.not_true, Bool.not_false, x_eFld, x_eIs, s_raise_, s_raise0_, s_aug_, aug_add, aug_sub, s_tryA_, s_tryO_, catchA_nx, catchA_ret, catchA_brk, catchA_ct, catchO_nx, catchO_ret, catchO_brk, catchO_ct, gone_nx, gone_ret, gone_brk, gone_ct, noX_nx, noX_ret, noX_brk, noX_ct, bind_exc, toS_exc, seq_exc, loop_exc, toR_exc, eFldS, eIsS, gl0, gl1, gl2, gl3, gl4, gl5, gl6, xs0_0, xs0_1, xs0_2, xs0_3, xi1, xk1_0, ra1, xs1_0, xs1_1, xs1_2, xs1_3, xi2, xk2_0, xk2_1, ra2, xs2_0, xs2_1, xs2_2, xs2_3, mi3_19, mi3_20, mi3_21, mi3_22, mi3_23, mi3_24, mi3_25, mi3_26, mi3_27, mi3_28, mi3_29, mi3_30, mi3_31, mi3_32, mi3_33, mi3_34, mi3_35, mi3_36, mi3_37, mi3_38, mi3_39, mi3_40, mi3_41, fd3_0, fd3_1, ho3]
/-- no whole number -/
def Wx (μ : Mu) (x : D) : Prop := ∀ j : Mu, ∃ b, isiS S x (.ty "int") (μ ++ j) = .ok (.bl b) (μ ++ j) ∧ (b = true → isiS S x (.ty "bool") (μ ++ j) = .ok (.bl true) (μ ++ j))
theorem wx_int {n : Nat} {x : D} {μ : Mu} (h : Wx μ x) (j : Mu) : runS S (n + 1) 0 [x] (μ ++ j) = .ok (.bl false) (μ ++ j) := by
  rw [run_raw (fi := f0) rfl rfl rfl]
  obtain ⟨b, e1, e2⟩ := h j
  cases b with
  | true => simp only [f0, b0, e1, e2 rfl, x_var, x_int, x_bl, x_str, x_non, x_glo, x_bin, x_un, x_cmp, x_cmp2, asBl_bl, x_and, x_or, x_not, x_ite, x_tup, x_lst, x_lstC, x_call, x_callK, x_mk, x_mkC, x_mkK, x_meth, x_attr, x_ix, x_bi, x_sl, x_fz, x_nil, x_cons, x_onone, asI_int, x_osome, x_tval, x_tand, x_tor, x_tnot, x_iseq, walkR_tup, walkR_lst, walkR_klst, x_irange1, x_irange2, x_itxt, walkT_str, x_ienum, enR_eq, x_izip, forG_nil, x_comp, compG_nil, x_cnone, x_csome, x_bm, x_dnew, wipeD_cons, wipeD_nil, s_set_, s_par_, s_unp_, s_ret_, s_retN_, s_drop_, s_ife_, s_fr_, s_brk_, s_ct_, s_pass_, s_never_, s_setIx_, s_setAttr_, s_nil_, s_cons_, bind_ok, toS_ok, seq_nx, seq_ret, seq_brk, seq_ct, loop_nx, loop_ct, loop_brk, loop_ret, toR_ret, toR_nx, bin_ints, intB_add, intB_sub, biS, toIntS, setAll, List.getElem?_cons_zero, List.getElem?_cons_succ, List.set_cons_zero, List.set_cons_succ, List.map_cons, List.map_nil, List.length_cons, List.length_nil, List.cons_append, List.nil_append, List.append_nil, List.replicate_succ, List.replicate_zero, Nat.reduceAdd, Nat.reduceSub, Nat.zero_add, Nat.reduceLeDiff, if_true, if_false, Bool.false_eq_true, decide_true, decide_false, Bool.not_true, Bool.not_false, x_eFld, x_eIs, s_raise_, s_raise0_, s_aug_, aug_add, aug_sub, s_tryA_, s_tryO_, catchA_nx, catchA_ret, catchA_brk, catchA_ct, catchO_nx, catchO_ret, catchO_brk, catchO_ct, gone_nx, gone_ret, gone_brk, gone_ct, noX_nx, noX_ret, noX_brk, noX_ct, bind_exc, toS_exc, seq_exc, loop_exc, toR_exc, eFldS, eIsS, gl0, gl1, gl2, gl3, gl4, gl5, gl6, xs0_0, xs0_1, xs0_2, xs0_3, xi1, xk1_0, ra1, xs1_0, xs1_1, xs1_2, xs1_3, xi2, xk2_0, xk2_1, ra2, xs2_0, xs2_1, xs2_2, xs2_3, mi3_19, mi3_20, mi3_21, mi3_22, mi3_23, mi3_24, mi3_25, mi3_26, mi3_27, mi3_28, mi3_29, mi3_30, mi3_31, mi3_32, mi3_33, mi3_34, mi3_35, mi3_36, mi3_37, mi3_38, mi3_39, mi3_40, mi3_41, fd3_0, fd3_1, ho3]
  | false => simp only [f0, b0, e1, x_var, x_int, x_bl, x_str, x_non, x_glo, x_bin, x_un, x_cmp, x_cmp2, asBl_bl, x_and, x_or, x_not, x_ite, x_tup, x_lst, x_lstC, x_call, x_callK, x_mk, x_mkC, x_mkK, x_meth, x_attr, x_ix, x_bi, x_sl, x_fz, x_nil, x_cons, x_onone, asI_int, x_osome, x_tval, x_tand, x_tor, x_tnot, x_iseq, walkR_tup, walkR_lst, walkR_klst, x_irange1, x_irange2, x_itxt, walkT_str, x_ienum, enR_eq, x_izip, forG_nil, x_comp, compG_nil, x_cnone, x_csome, x_bm, x_dnew, wipeD_cons, wipeD_nil, s_set_, s_par_, s_unp_, s_ret_, s_retN_, s_drop_, s_ife_, s_fr_, s_brk_, s_ct_, s_pass_, s_never_, s_setIx_, s_setAttr_, s_nil_, s_cons_, bind_ok, toS_ok, seq_nx, seq_ret, seq_brk, seq_ct, loop_nx, loop_ct, loop_brk, loop_ret, toR_ret, toR_nx, bin_ints, intB_add, intB_sub, biS, toIntS, setAll, List.getElem?_cons_zero, List.getElem?_cons_succ, List.set_cons_zero, List.set_cons_succ, List.map_cons, List.map_nil, List.length_cons, List.length_nil, List.cons_append, List.nil_append, List.append_nil, List.replicate_succ, List.replicate_zero, Nat.reduceAdd, Nat.reduceSub, Nat.zero_add, Nat.reduceLeDiff, if_true, if_false, Bool.false_eq_true, decide_true, decide_false, Bool.not_true, Bool.not_false, x_eFld, x_eIs, s_raise_, s_raise0_, s_aug_, aug_add, aug_sub, s_tryA_, s_tryO_, catchA_nx, catchA_ret, catchA_brk, catchA_ct, catchO_nx, catchO_ret, catchO_brk, catchO_ct, gone_nx, gone_ret, gone_brk, gone_ct, noX_nx, noX_ret, noX_brk, noX_ct, bind_exc, toS_exc, seq_exc, loop_exc, toR_exc, eFldS, eIsS, gl0, gl1, gl2, gl3, gl4, gl5, gl6, xs0_0, xs0_1, xs0_2, xs0_3, xi1, xk1_0, ra1, xs1_0, xs1_1, xs1_2, xs1_3, xi2, xk2_0, xk2_1, ra2, xs2_0, xs2_1, xs2_2, xs2_3, mi3_19, mi3_20, mi3_21, mi3_22, mi3_23, mi3_24, mi3_25, mi3_26, mi3_27, mi3_28, mi3_29, mi3_30, mi3_31, mi3_32, mi3_33, mi3_34, mi3_35, mi3_36, mi3_37, mi3_38, mi3_39, mi3_40, mi3_41, fd3_0, fd3_1, ho3]
theorem made_of {n : Nat} {x y : D} {w : Str} {μ : Mu} {j : Mu} (h : mkS true 3 (fun o m => mrun S (runS S n) 3 "__init__" (o ++ [x, y]) m) μ = exw w (μ ++ j)) : runS S (n + 1) 15 [x, y] μ = .ok (.str w) μ := by
  have c := closeFz_low (μ := μ) (j := j) (d := .str w) rfl
  rw [run_fz (fi := f15) rfl rfl rfl]
  simp only [f15, b15, h, catchA_exc xs1_0, isi_nonR, c, x_var, x_int, x_bl, x_str, x_non, x_glo, x_bin, x_un, x_cmp, x_cmp2, asBl_bl, x_and, x_or, x_not, x_ite, x_tup, x_lst, x_lstC, x_call, x_callK, x_mk, x_mkC, x_mkK, x_meth, x_attr, x_ix, x_bi, x_sl, x_fz, x_nil, x_cons, x_onone, asI_int, x_osome, x_tval, x_tand, x_tor, x_tnot, x_iseq, walkR_tup, walkR_lst, walkR_klst, x_irange1, x_irange2, x_itxt, walkT_str, x_ienum, enR_eq, x_izip, forG_nil, x_comp, compG_nil, x_cnone, x_csome, x_bm, x_dnew, wipeD_cons, wipeD_nil, s_set_, s_par_, s_unp_, s_ret_, s_retN_, s_drop_, s_ife_, s_fr_, s_brk_, s_ct_, s_pass_, s_never_, s_setIx_, s_setAttr_, s_nil_, s_cons_, bind_ok, toS_ok, seq_nx, seq_ret, seq_brk, seq_ct, loop_nx, loop_ct, loop_brk, loop_ret, toR_ret, toR_nx, bin_ints, intB_add, intB_sub, biS, toIntS, setAll, List.getElem?_cons_zero, List.getElem?_cons_succ, List.set_cons_zero, List.set_cons_succ, List.map_cons, List.map_nil, List.length_cons, List.length_nil, List.cons_append, List.nil_append, List.append_nil, List.replicate_succ, List.replicate_zero, Nat.reduceAdd, Nat.reduceSub, Nat.zero_add, Nat.reduceLeDiff, if_true, if_false, Bool.false_eq_true, decide_true, decide_false, Bool.not_true, Bool.not_false, x_eFld, x_eIs, s_raise_, s_raise0_, s_aug_, aug_add, aug_sub, s_tryA_, s_tryO_, catchA_nx, catchA_ret, catchA_brk, catchA_ct, catchO_nx, catchO_ret, catchO_brk, catchO_ct, gone_nx, gone_ret, gone_brk, gone_ct, noX_nx, noX_ret, noX_brk, noX_ct, bind_exc, toS_exc, seq_exc, loop_exc, toR_exc, eFldS, eIsS, gl0, gl1, gl2, gl3, gl4, gl5, gl6, xs0_0, xs0_1, xs0_2, xs0_3, xi1, xk1_0, ra1, xs1_0, xs1_1, xs1_2, xs1_3, xi2, xk2_0, xk2_1, ra2, xs2_0, xs2_1, xs2_2, xs2_3, mi3_19, mi3_20, mi3_21, mi3_22, mi3_23, mi3_24, mi3_25, mi3_26, mi3_27, mi3_28, mi3_29, mi3_30, mi3_31, mi3_32, mi3_33, mi3_34, mi3_35, mi3_36, mi3_37, mi3_38, mi3_39, mi3_40, mi3_41, fd3_0, fd3_1, ho3]
theorem init_top {n : Nat} {x y : D} {μ : Mu} (h : Wx μ x) : mkS true 3 (fun o m => mrun S (runS S (n + 2)) 3 "__init__" (o ++ [x, y]) m) μ = exw "top" (μ ++ [.ins 3 []]) := by
  have q := wx_int (n := n) h [.ins 3 []]
  have e : runS S (n + 2) 19 [.cell μ.length, x, y] (μ ++ [.ins 3 []]) = exw "top" (μ ++ [.ins 3 []]) := by
    rw [run_raw (fi := f19) rfl rfl rfl]
    simp only [f19, b19, q, x_var, x_int, x_bl, x_str, x_non, x_glo, x_bin, x_un, x_cmp, x_cmp2, asBl_bl, x_and, x_or, x_not, x_ite, x_tup, x_lst, x_lstC, x_call, x_callK, x_mk, x_mkC, x_mkK, x_meth, x_attr, x_ix, x_bi, x_sl, x_fz, x_nil, x_cons, x_onone, asI_int, x_osome, x_tval, x_tand, x_tor, x_tnot, x_iseq, walkR_tup, walkR_lst, walkR_klst, x_irange1, x_irange2, x_itxt, walkT_str, x_ienum, enR_eq, x_izip, forG_nil, x_comp, compG_nil, x_cnone, x_csome, x_bm, x_dnew, wipeD_cons, wipeD_nil, s_set_, s_par_, s_unp_, s_ret_, s_retN_, s_drop_, s_ife_, s_fr_, s_brk_, s_ct_, s_pass_, s_never_, s_setIx_, s_setAttr_, s_nil_, s_cons_, bind_ok, toS_ok, seq_nx, seq_ret, seq_brk, seq_ct, loop_nx, loop_ct, loop_brk, loop_ret, toR_ret, toR_nx, bin_ints, intB_add, intB_sub, biS, toIntS, setAll, List.getElem?_cons_zero, List.getElem?_cons_succ, List.set_cons_zero, List.set_cons_succ, List.map_cons, List.map_nil, List.length_cons, List.length_nil, List.cons_append, List.nil_append, List.append_nil, List.replicate_succ, List.replicate_zero, Nat.reduceAdd, Nat.reduceSub, Nat.zero_add, Nat.reduceLeDiff, if_true, if_false, Bool.false_eq_true, decide_true, decide_false, Bool.not_true, Bool.not_false, x_eFld, x_eIs, s_raise_, s_raise0_, s_aug_, aug_add, aug_sub, s_tryA_, s_tryO_, catchA_nx, catchA_ret, catchA_brk, catchA_ct, catchO_nx, catchO_ret, catchO_brk, catchO_ct, gone_nx, gone_ret, gone_brk, gone_ct, noX_nx, noX_ret, noX_brk, noX_ct, bind_exc, toS_exc, seq_exc, loop_exc, toR_exc, eFldS, eIsS, gl0, gl1, gl2, gl3, gl4, gl5, gl6, xs0_0, xs0_1, xs0_2, xs0_3, xi1, xk1_0, ra1, xs1_0, xs1_1, xs1_2, xs1_3, xi2, xk2_0, xk2_1, ra2, xs2_0, xs2_1, xs2_2, xs2_3, mi3_19, mi3_20, mi3_21, mi3_22, mi3_23, mi3_24, mi3_25, mi3_26, mi3_27, mi3_28, mi3_29, mi3_30, mi3_31, mi3_32, mi3_33, mi3_34, mi3_35, mi3_36, mi3_37, mi3_38, mi3_39, mi3_40, mi3_41, fd3_0, fd3_1, ho3]
  unfold mkS mrun
  simp only [mi3_19, List.cons_append, List.nil_append, e, bind_exc]
theorem init_bot {n : Nat} {t : Int} {y : D} {μ : Mu} (h : Wx μ y) : mkS true 3 (fun o m => mrun S (runS S (n + 2)) 3 "__init__" (o ++ [.int t, y]) m) μ = exw "bottom" (μ ++ [.ins 3 []]) := by
  have q := wx_int (n := n) h [.ins 3 []]
  have e : runS S (n + 2) 19 [.cell μ.length, .int t, y] (μ ++ [.ins 3 []]) = exw "bottom" (μ ++ [.ins 3 []]) := by
    rw [run_raw (fi := f19) rfl rfl rfl]
    simp only [f19, b19, is_integer_int, q, x_var, x_int, x_bl, x_str, x_non, x_glo, x_bin, x_un, x_cmp, x_cmp2, asBl_bl, x_and, x_or, x_not, x_ite, x_tup, x_lst, x_lstC, x_call, x_callK, x_mk, x_mkC, x_mkK, x_meth, x_attr, x_ix, x_bi, x_sl, x_fz, x_nil, x_cons, x_onone, asI_int, x_osome, x_tval, x_tand, x_tor, x_tnot, x_iseq, walkR_tup, walkR_lst, walkR_klst, x_irange1, x_irange2, x_itxt, walkT_str, x_ienum, enR_eq, x_izip, forG_nil, x_comp, compG_nil, x_cnone, x_csome, x_bm, x_dnew, wipeD_cons, wipeD_nil, s_set_, s_par_, s_unp_, s_ret_, s_retN_, s_drop_, s_ife_, s_fr_, s_brk_, s_ct_, s_pass_, s_never_, s_setIx_, s_setAttr_, s_nil_, s_cons_, bind_ok, toS_ok, seq_nx, seq_ret, seq_brk, seq_ct, loop_nx, loop_ct, loop_brk, loop_ret, toR_ret, toR_nx, bin_ints, intB_add, intB_sub, biS, toIntS, setAll, List.getElem?_cons_zero, List.getElem?_cons_succ, List.set_cons_zero, List.set_cons_succ, List.map_cons, List.map_nil, List.length_cons, List.length_nil, List.cons_append, List.nil_append, List.append_nil, List.replicate_succ, List.replicate_zero, Nat.reduceAdd, Nat.reduceSub, Nat.zero_add, Nat.reduceLeDiff, if_true, if_false, Bool.false_eq_true, decide_true, decide_false, Bool.not_true, Bool.not_false, x_eFld, x_eIs, s_raise_, s_raise0_, s_aug_, aug_add, aug_sub, s_tryA_, s_tryO_, catchA_nx, catchA_ret, catchA_brk, catchA_ct, catchO_nx, catchO_ret, catchO_brk, catchO_ct, gone_nx, gone_ret, gone_brk, gone_ct, noX_nx, noX_ret, noX_brk, noX_ct, bind_exc, toS_exc, seq_exc, loop_exc, toR_exc, eFldS, eIsS, gl0, gl1, gl2, gl3, gl4, gl5, gl6, xs0_0, xs0_1, xs0_2, xs0_3, xi1, xk1_0, ra1, xs1_0, xs1_1, xs1_2, xs1_3, xi2, xk2_0, xk2_1, ra2, xs2_0, xs2_1, xs2_2, xs2_3, mi3_19, mi3_20, mi3_21, mi3_22, mi3_23, mi3_24, mi3_25, mi3_26, mi3_27, mi3_28, mi3_29, mi3_30, mi3_31, mi3_32, mi3_33, mi3_34, mi3_35, mi3_36, mi3_37, mi3_38, mi3_39, mi3_40, mi3_41, fd3_0, fd3_1, ho3]
  unfold mkS mrun
  simp only [mi3_19, List.cons_append, List.nil_append, e, bind_exc]
theorem init_zero {n : Nat} {t : Int} {μ : Mu} : mkS true 3 (fun o m => mrun S (runS S (n + 2)) 3 "__init__" (o ++ [.int t, .int 0]) m) μ = exw "zero" (μ ++ [.ins 3 []]) := by
  have z : decide ((0 : Int) = 0) = true := rfl
  have e : runS S (n + 2) 19 [.cell μ.length, .int t, .int 0] (μ ++ [.ins 3 []]) = exw "zero" (μ ++ [.ins 3 []]) := by
    rw [run_raw (fi := f19) rfl rfl rfl]
    simp only [f19, b19, is_integer_int, c_eq, z, x_var, x_int, x_bl, x_str, x_non, x_glo, x_bin, x_un, x_cmp, x_cmp2, asBl_bl, x_and, x_or, x_not, x_ite, x_tup, x_lst, x_lstC, x_call, x_callK, x_mk, x_mkC, x_mkK, x_meth, x_attr, x_ix, x_bi, x_sl, x_fz, x_nil, x_cons, x_onone, asI_int, x_osome, x_tval, x_tand, x_tor, x_tnot, x_iseq, walkR_tup, walkR_lst, walkR_klst, x_irange1, x_irange2, x_itxt, walkT_str, x_ienum, enR_eq, x_izip, forG_nil, x_comp, compG_nil, x_cnone, x_csome, x_bm, x_dnew, wipeD_cons, wipeD_nil, s_set_, s_par_, s_unp_, s_ret_, s_retN_, s_drop_, s_ife_, s_fr_, s_brk_, s_ct_, s_pass_, s_never_, s_setIx_, s_setAttr_, s_nil_, s_cons_, bind_ok, toS_ok, seq_nx, seq_ret, seq_brk, seq_ct, loop_nx, loop_ct, loop_brk, loop_ret, toR_ret, toR_nx, bin_ints, intB_add, intB_sub, biS, toIntS, setAll, List.getElem?_cons_zero, List.getElem?_cons_succ, List.set_cons_zero, List.set_cons_succ, List.map_cons, List.map_nil, List.length_cons, List.length_nil, List.cons_append, List.nil_append, List.append_nil, List.replicate_succ, List.replicate_zero, Nat.reduceAdd, Nat.reduceSub, Nat.zero_add, Nat.reduceLeDiff, if_true, if_false, Bool.false_eq_true, decide_true, decide_false, Bool.not_true, Bool.not_false, x_eFld, x_eIs, s_raise_, s_raise0_, s_aug_, aug_add, aug_sub, s_tryA_, s_tryO_, catchA_nx, catchA_ret, catchA_brk, catchA_ct, catchO_nx, catchO_ret, catchO_brk, catchO_ct, gone_nx, gone_ret, gone_brk, gone_ct, noX_nx, noX_ret, noX_brk, noX_ct, bind_exc, toS_exc, seq_exc, loop_exc, toR_exc, eFldS, eIsS, gl0, gl1, gl2, gl3, gl4, gl5, gl6, xs0_0, xs0_1, xs0_2, xs0_3, xi1, xk1_0, ra1, xs1_0, xs1_1, xs1_2, xs1_3, xi2, xk2_0, xk2_1, ra2, xs2_0, xs2_1, xs2_2, xs2_3, mi3_19, mi3_20, mi3_21, mi3_22, mi3_23, mi3_24, mi3_25, mi3_26, mi3_27, mi3_28, mi3_29, mi3_30, mi3_31, mi3_32, mi3_33, mi3_34, mi3_35, mi3_36, mi3_37, mi3_38, mi3_39, mi3_40, mi3_41, fd3_0, fd3_1, ho3]
  unfold mkS mrun
  simp only [mi3_19, List.cons_append, List.nil_append, e, bind_exc]
theorem made_top {n : Nat} {x y : D} {μ : Mu} (h : Wx μ x) : runS S (n + 3) 15 [x, y] μ = .ok (.str "top") μ := made_of (init_top h)
theorem made_bot {n : Nat} {t : Int} {y : D} {μ : Mu} (h : Wx μ y) : runS S (n + 3) 15 [.int t, y] μ = .ok (.str "bottom") μ := made_of (init_bot h)
theorem made_zero {n : Nat} {t : Int} {μ : Mu} : runS S (n + 3) 15 [.int t, .int 0] μ = .ok (.str "zero") μ := made_of init_zero
theorem made_told {n : Nat} {t : Int} {μ : Mu} : runS S (n + 3) 15 [.int t, .int 1] μ = .ok (.str "told") μ := by
  have mk := mk_rat (n := n) (t := t) (b := 1) (μ := μ) (by decide) (one_bd.mono (by decide))
  have c := closeFz_low (μ := μ) (j := []) (d := .str "told") rfl
  rw [List.append_nil] at c
  rw [run_fz (fi := f15) rfl rfl rfl]
  simp only [f15, b15, mk, isi_ratR, c, x_var, x_int, x_bl, x_str, x_non, x_glo, x_bin, x_un, x_cmp, x_cmp2, asBl_bl, x_and, x_or, x_not, x_ite, x_tup, x_lst, x_lstC, x_call, x_callK, x_mk, x_mkC, x_mkK, x_meth, x_attr, x_ix, x_bi, x_sl, x_fz, x_nil, x_cons, x_onone, asI_int, x_osome, x_tval, x_tand, x_tor, x_tnot, x_iseq, walkR_tup, walkR_lst, walkR_klst, x_irange1, x_irange2, x_itxt, walkT_str, x_ienum, enR_eq, x_izip, forG_nil, x_comp, compG_nil, x_cnone, x_csome, x_bm, x_dnew, wipeD_cons, wipeD_nil, s_set_, s_par_, s_unp_, s_ret_, s_retN_, s_drop_, s_ife_, s_fr_, s_brk_, s_ct_, s_pass_, s_never_, s_setIx_, s_setAttr_, s_nil_, s_cons_, bind_ok, toS_ok, seq_nx, seq_ret, seq_brk, seq_ct, loop_nx, loop_ct, loop_brk, loop_ret, toR_ret, toR_nx, bin_ints, intB_add, intB_sub, biS, toIntS, setAll, List.getElem?_cons_zero, List.getElem?_cons_succ, List.set_cons_zero, List.set_cons_succ, List.map_cons, List.map_nil, List.length_cons, List.length_nil, List.cons_append, List.nil_append, List.append_nil, List.replicate_succ, List.replicate_zero, Nat.reduceAdd, Nat.reduceSub, Nat.zero_add, Nat.reduceLeDiff, if_true, if_false, Bool.false_eq_true, decide_true, decide_false, Bool.not_true, Bool.not_false, x_eFld, x_eIs, s_raise_, s_raise0_, s_aug_, aug_add, aug_sub, s_tryA_, s_tryO_, catchA_nx, catchA_ret, catchA_brk, catchA_ct, catchO_nx, catchO_ret, catchO_brk, catchO_ct, gone_nx, gone_ret, gone_brk, gone_ct, noX_nx, noX_ret, noX_brk, noX_ct, bind_exc, toS_exc, seq_exc, loop_exc, toR_exc, eFldS, eIsS, gl0, gl1, gl2, gl3, gl4, gl5, gl6, xs0_0, xs0_1, xs0_2, xs0_3, xi1, xk1_0, ra1, xs1_0, xs1_1, xs1_2, xs1_3, xi2, xk2_0, xk2_1, ra2, xs2_0, xs2_1, xs2_2, xs2_3, mi3_19, mi3_20, mi3_21, mi3_22, mi3_23, mi3_24, mi3_25, mi3_26, mi3_27, mi3_28, mi3_29, mi3_30, mi3_31, mi3_32, mi3_33, mi3_34, mi3_35, mi3_36, mi3_37, mi3_38, mi3_39, mi3_40, mi3_41, fd3_0, fd3_1, ho3]
theorem wx_rat {t b : Int} {μ : Mu} : Wx μ (rat t b) := fun j => ⟨false, rfl, fun h => by cases h⟩
/-! ### values that are none -/
theorem isi_dct {k : Nat} {μ : Mu} {t : String} (h : μ[k]? = some (.dct [])) (ht : t = "int" ∨ t = "str" ∨ t = "bool") : isiS S (.cell k) (.ty t) μ = .ok (.bl false) μ := by
  rcases ht with rfl | rfl | rfl
  · simp only [isiS, tyD, h, clsOfs, clsOf]
    rfl
  · simp only [isiS, tyD, h, clsOfs, clsOf]
    rfl
  · simp only [isiS, tyD, h, clsOfs, clsOf]
    rfl
theorem other_ok {r : Int} {k : Nat} (h0 : 0 ≤ r) (h1 : r < 8) : ∃ x, (∀ m, ixF (.tup [.non, .bl true, .int 7, .tup [.str "1"], .lst [.str "1"], .int 0, .bl false, .cell k]) (.int r) m = .ok x m) ∧ ∀ m : Mu, m[k]? = some (.dct []) → isiS S x (.ty "str") m = .ok (.bl false) m := by
  have q : r = 0 ∨ r = 1 ∨ r = 2 ∨ r = 3 ∨ r = 4 ∨ r = 5 ∨ r = 6 ∨ r = 7 := by omega
  rcases q with rfl | rfl | rfl | rfl | rfl | rfl | rfl | rfl
  · exact ⟨_, fun m => rfl, fun m _ => rfl⟩
  · exact ⟨_, fun m => rfl, fun m _ => rfl⟩
  · exact ⟨_, fun m => rfl, fun m _ => rfl⟩
  · exact ⟨_, fun m => rfl, fun m _ => rfl⟩
  · exact ⟨_, fun m => rfl, fun m _ => rfl⟩
  · exact ⟨_, fun m => rfl, fun m _ => rfl⟩
  · exact ⟨_, fun m => rfl, fun m _ => rfl⟩
  · exact ⟨_, fun m => rfl, fun m h => isi_dct h (.inr (.inl rfl))⟩
theorem wrong_ok {r : Int} {k : Nat} (h0 : 0 ≤ r) (h1 : r < 8) : ∃ x, (∀ m, ixF (.tup [.non, .bl true, .str "3", .tup [.str "1"], .lst [.int 3], .str "", .bl false, .cell k]) (.int r) m = .ok x m) ∧ ∀ m : Mu, m[k]? = some (.dct []) → Wx m x := by
  have q : r = 0 ∨ r = 1 ∨ r = 2 ∨ r = 3 ∨ r = 4 ∨ r = 5 ∨ r = 6 ∨ r = 7 := by omega
  rcases q with rfl | rfl | rfl | rfl | rfl | rfl | rfl | rfl
  · exact ⟨_, fun m => rfl, fun m _ j => ⟨false, rfl, fun h => by cases h⟩⟩
  · exact ⟨_, fun m => rfl, fun m _ j => ⟨true, rfl, fun _ => rfl⟩⟩
  · exact ⟨_, fun m => rfl, fun m _ j => ⟨false, rfl, fun h => by cases h⟩⟩
  · exact ⟨_, fun m => rfl, fun m _ j => ⟨false, rfl, fun h => by cases h⟩⟩
  · exact ⟨_, fun m => rfl, fun m _ j => ⟨false, rfl, fun h => by cases h⟩⟩
  · exact ⟨_, fun m => rfl, fun m _ j => ⟨false, rfl, fun h => by cases h⟩⟩
  · exact ⟨_, fun m => rfl, fun m _ j => ⟨true, rfl, fun _ => rfl⟩⟩
  · exact ⟨_, fun m => rfl, fun m h j => ⟨false, isi_dct (by rw [List.getElem?_append_left (List.getElem?_eq_some_iff.mp h).1]; exact h) (.inl rfl), fun h => by cases h⟩⟩
theorem eqp_same {run : Nat → List D → PM D} {neg : Bool} {v : D} {p : PyData} {m : Mu} (e : pyC m v = some p) (h : SeqAt.shaped p = true) : eqP S run neg v v m = .ok (.bl (!neg)) m := by
  unfold eqP
  rw [e]
  dsimp only
  rw [h, Bool.and_self, if_pos rfl, SeqAt.eqv_refl _ (SeqAt.canLay_of_shaped h)]
  cases neg <;> rfl
theorem sh_due (o : Option (Int × Int)) : ∃ p, (∀ m, pyC m (dueO o) = some p) ∧ SeqAt.shaped p = true := by
  cases o with
  | none => exact ⟨_, fun m => rfl, by decide +kernel⟩
  | some p =>
    refine ⟨.tuple [.str "told", .int p.1, .int p.2], fun m => rfl, ?_⟩
    have z : (PyData.strOk ("told" : Str) && decide (max 0 (max 0 (max 0 0)) + 1 ≤ 64)) = true := by decide +kernel
    simp only [SeqAt.shaped, PyData.canLay0, PyData.canLayAll0, PyData.depth, PyData.depthAll, Bool.and_true]
    exact z
theorem due_ne {run : Nat → List D → PM D} {o : Option (Int × Int)} {m : Mu} : cmpS S run .NotEq (dueO o) (dueO o) m = .ok (.bl false) m := by
  obtain ⟨p, e, h⟩ := sh_due o
  have q := eqp_same (run := run) (neg := true) (e m) h
  rw [cmpS_main (by decide) (by decide)]
  cases o <;> exact q
theorem due_eq {run : Nat → List D → PM D} {o : Option (Int × Int)} {m : Mu} : cmpS S run .Eq (dueO o) (dueO o) m = .ok (.bl true) m := by
  obtain ⟨p, e, h⟩ := sh_due o
  have q := eqp_same (run := run) (neg := false) (e m) h
  rw [cmpS_main (by decide) (by decide)]
  cases o <;> exact q
theorem ref_ne {run : Nat → List D → PM D} {m : Mu} : cmpS S run .NotEq refT refT m = .ok (.bl false) m := due_ne (o := none)
theorem ref_eq {run : Nat → List D → PM D} {m : Mu} : cmpS S run .Eq refT refT m = .ok (.bl true) m := due_eq (o := none)
theorem c_strNs {run : Nat → List D → PM D} {a : Str} {m : Mu} : cmpS S run .NotEq (.str a) (.str a) m = .ok (.bl false) m := by
  rw [c_strN, dt rfl]
  rfl
end K04
namespace K04
open PySem PySem.Spec PyProof.Rows L2 L3
/-! ### a turn -/
theorem nT1 {i : Int} : nT i 1 = i := by
  have h := nT_mul (t := i) (b := 1)
  rw [Int.gcd_one] at h
  have s : sg i 1 = i := by
    unfold sg
    rw [if_neg (by decide)]
  rw [s] at h
  omega
theorem nB1 {i : Int} : nB i 1 = 1 := by
  have h := nB_mul (t := i) (b := 1)
  rw [Int.gcd_one] at h
  have s : ((1 : Int).natAbs : Int) = 1 := rfl
  omega
theorem callK0 {run : Nat → List D → PM D} {x : D} {w : D} {m : Mu} : callKS S run 0 [x, w] [] m = run 19 [x, w, .int 1] m := rfl
theorem mk_one {n : Nat} {i : Int} {μ : Mu} : mkS true 3 (fun o m => callKS S (runS S (n + 2)) 0 (o ++ [.int i]) [] m) μ = .ok (rat i 1) μ := by
  unfold mkS
  simp only [List.cons_append, List.nil_append, callK0, init_ok one_ne (one_bd.mono (by decide)), bind_ok, if_true, nT1, nB1]
  exact closeFz_ins rfl
abbrev lawB : JB := match b16 with
  | .cons (.fr _ _ b) _ => b
  | _ => .nil
abbrev edB : JB := .cons (.set 7 (.call 11 (.cons (.var 2) (.cons (.var 7) .nil)))) .nil
theorem ed_loop {n : Nat} {x0 x1 x3 x4 x5 x6 x9 : Option D} : ∀ (ds : List D) (m : Nat) (cl : Cel) (z : Str), Sc m cl → m + 5 * ds.length ≤ 3000 → z.length + ds.length ≤ 1000 → ∃ z' cl', Sc (m + 5 * ds.length) cl' ∧ z'.length ≤ z.length + ds.length ∧
    ∀ (μ ρ : Mu) (x8 : Option D), ∃ y8, forL (.one 8) (semB S (runS S (n + 2)) edB) ds [x0, x1, some (.cell μ.length), x3, x4, x5, x6, some (.str z), x8, x9] (μ ++ cl :: ρ) = .nx [x0, x1, some (.cell μ.length), x3, x4, x5, x6, some (.str z'), y8, x9] (μ ++ cl' :: ρ)
  | [], m, cl, z, s, _, _ => ⟨z, cl, s, Nat.le_refl _, fun μ ρ x8 => ⟨x8, rfl⟩⟩
  | d :: ds, m, cl, z, s, hm, hz => by
    simp only [List.length_cons] at hm hz
    obtain ⟨z1, c1, s1, l1, e1⟩ := changed_ok (n := n) s (by omega) (by omega) (z := z)
    obtain ⟨z2, c2, s2, l2, e2⟩ := ed_loop (n := n) (x0 := x0) (x1 := x1) (x3 := x3) (x4 := x4) (x5 := x5) (x6 := x6) (x9 := x9) ds (m + 5) c1 z1 s1 (by omega) (by omega)
    refine ⟨z2, c2, s2.mono (by simp only [List.length_cons]; omega), by simp only [List.length_cons]; omega, fun μ ρ x8 => ?_⟩
    obtain ⟨y8, q⟩ := e2 μ ρ (some d)
    refine ⟨y8, ?_⟩
    rw [forL_put (δ' := [x0, x1, some (.cell μ.length), x3, x4, x5, x6, some (.str z), some d, x9]) rfl]
    have e : semB S (runS S (n + 2)) edB [x0, x1, some (.cell μ.length), x3, x4, x5, x6, some (.str z), some d, x9] (μ ++ cl :: ρ) = .nx [x0, x1, some (.cell μ.length), x3, x4, x5, x6, some (.str z1), some d, x9] (μ ++ c1 :: ρ) := by
      simp only [edB, e1, x_var, x_int, x_bl, x_str, x_non, x_glo, x_bin, x_un, x_cmp, x_cmp2, asBl_bl, x_and, x_or, x_not, x_ite, x_tup, x_lst, x_lstC, x_call, x_callK, x_mk, x_mkC, x_mkK, x_meth, x_attr, x_ix, x_bi, x_sl, x_fz, x_nil, x_cons, x_onone, asI_int, x_osome, x_tval, x_tand, x_tor, x_tnot, x_iseq, walkR_tup, walkR_lst, walkR_klst, x_irange1, x_irange2, x_itxt, walkT_str, x_ienum, enR_eq, x_izip, forG_nil, x_comp, compG_nil, x_cnone, x_csome, x_bm, x_dnew, wipeD_cons, wipeD_nil, s_set_, s_par_, s_unp_, s_ret_, s_retN_, s_drop_, s_ife_, s_fr_, s_brk_, s_ct_, s_pass_, s_never_, s_setIx_, s_setAttr_, s_nil_, s_cons_, bind_ok, toS_ok, seq_nx, seq_ret, seq_brk, seq_ct, loop_nx, loop_ct, loop_brk, loop_ret, toR_ret, toR_nx, bin_ints, intB_add, intB_sub, biS, toIntS, setAll, List.getElem?_cons_zero, List.getElem?_cons_succ, List.set_cons_zero, List.set_cons_succ, List.map_cons, List.map_nil, List.length_cons, List.length_nil, List.cons_append, List.nil_append, List.append_nil, List.replicate_succ, List.replicate_zero, Nat.reduceAdd, Nat.reduceSub, Nat.zero_add, Nat.reduceLeDiff, if_true, if_false, Bool.false_eq_true, decide_true, decide_false, Bool.not_true, Bool.not_false, x_eFld, x_eIs, s_raise_, s_raise0_, s_aug_, aug_add, aug_sub, s_tryA_, s_tryO_, catchA_nx, catchA_ret, catchA_brk, catchA_ct, catchO_nx, catchO_ret, catchO_brk, catchO_ct, gone_nx, gone_ret, gone_brk, gone_ct, noX_nx, noX_ret, noX_brk, noX_ct, bind_exc, toS_exc, seq_exc, loop_exc, toR_exc, eFldS, eIsS, gl0, gl1, gl2, gl3, gl4, gl5, gl6, xs0_0, xs0_1, xs0_2, xs0_3, xi1, xk1_0, ra1, xs1_0, xs1_1, xs1_2, xs1_3, xi2, xk2_0, xk2_1, ra2, xs2_0, xs2_1, xs2_2, xs2_3, mi3_19, mi3_20, mi3_21, mi3_22, mi3_23, mi3_24, mi3_25, mi3_26, mi3_27, mi3_28, mi3_29, mi3_30, mi3_31, mi3_32, mi3_33, mi3_34, mi3_35, mi3_36, mi3_37, mi3_38, mi3_39, mi3_40, mi3_41, fd3_0, fd3_1, ho3]
    rw [e, loop_nx, q]
theorem law_turn (n : Nat) (cell : Int) (x0 x2 x3 x4 x5 x6 x7 x8 x9 : Option D) (μ : Mu) : ∃ δ' μ', δ'.length = 10 ∧ semB S (runS S (n + 4)) lawB [x0, some (.int cell), x2, x3, x4, x5, x6, x7, x8, x9] μ = .nx δ' μ' := by
  obtain ⟨cl0, s0, e0⟩ := stream_ok (n := n + 3) (c := cell)
  obtain ⟨ed, cl1, s1, d0, d1, e1⟩ := dr (n := n + 3) s0 3 (by decide) (by decide) (by decide)
  obtain ⟨r2, cl2, s2, a0, a1, e2⟩ := dr (n := n + 3) s1 8 (by decide) (by decide) (by decide)
  obtain ⟨ot, i2, w2⟩ := other_ok (k := μ.length + 1) a0 a1
  obtain ⟨nm, cl3, s3, _, _, e3⟩ := top_ok (n := n + 2) s2 (by decide)
  obtain ⟨r4, cl4, s4, b0, b1, e4⟩ := dr (n := n + 3) s3 8 (by decide) (by decide) (by decide)
  obtain ⟨wr, i4, w4⟩ := wrong_ok (k := μ.length + 1 + 1) b0 b1
  obtain ⟨z, cl5, s5, lz, e5⟩ := text_ok (n := n + 2) (μ := μ) s4 (by decide)
  obtain ⟨ρ', e5⟩ := e5 [.dct [], .dct []]
  obtain ⟨z', cl6, s6, lz', e6⟩ := ed_loop (n := n + 2) (x0 := x0) (x1 := some (.int cell)) (x3 := some (.int ed)) (x4 := some ot) (x5 := some (.int nm)) (x6 := some wr) (x9 := x9) (irange 0 ed.toNat) _ cl5 z s5 (by rw [irange_len]; omega) (by rw [irange_len]; omega)
  rw [irange_len] at lz'
  obtain ⟨y8, e6⟩ := e6 μ ([.dct [], .dct []] ++ ρ') x8
  have rg : ∀ m, rng1 (.int ed) m = .ok (irange 0 ed.toNat, []) m := fun m => rng1_ok (by simp [smallI]; omega)
  obtain ⟨o, ho⟩ := out_ex z'
  have rd := fun m => lread_ok (n := n) (μ := m) (z := z') (by omega) ho
  have du := fun m => due_ok (n := n + 2) (μ := m) (z := z') (by omega) ho
  have m1 : (μ ++ cl6 :: (.dct [] :: .dct [] :: ρ'))[μ.length + 1]? = some (.dct []) := by
    rw [List.getElem?_append_right (by omega)]
    simp
  have m2 : (μ ++ cl6 :: (.dct [] :: .dct [] :: ρ'))[μ.length + 1 + 1]? = some (.dct []) := by
    rw [List.getElem?_append_right (by omega)]
    have : μ.length + 1 + 1 - μ.length = 2 := by omega
    rw [this]
    rfl
  have rb := lread_bad (n := n) (w2 _ m1)
  have W := w4 _ m2
  have t1 := made_top (n := n + 1) (y := .int nm) W
  have t2 := made_top (n := n + 1) (y := wr) W
  have t3 := made_top (n := n + 1) (y := .int 0) W
  have b1 := made_bot (n := n + 1) (t := nm) W
  have z1 := fun m => made_zero (n := n + 1) (t := nm) (μ := m)
  have k1 := fun m => made_told (n := n + 1) (t := nm) (μ := m)
  have q1 := fun m => made_top (n := n + 1) (y := .int 1) (wx_rat (t := nm) (b := 1) (μ := m))
  have q2 := fun m => made_bot (n := n + 1) (t := nm) (wx_rat (t := 1) (b := 1) (μ := m))
  have o1 := fun m => mk_one (n := n + 2) (i := nm) (μ := m)
  have o2 := fun m => mk_one (n := n + 2) (i := 1) (μ := m)
  have l1 : (μ ++ [cl1]).length = μ.length + 1 := by simp
  have l2 : (μ ++ [cl3, .dct []]).length = μ.length + 1 + 1 := by simp
  have a1 : ∀ c : Cel, μ ++ [c] ++ [.dct []] = μ ++ [c, .dct []] := fun c => by simp
  have a2 : ∀ c : Cel, μ ++ [c, .dct []] ++ [.dct []] = μ ++ [c, .dct [], .dct []] := fun c => by simp
  simp only [List.cons_append, List.nil_append] at e5 e6
  simp only [edB] at e6
  refine ⟨[x0, some (.int cell), some (.cell μ.length), some (.int ed), some ot, some (.int nm), some wr, some (.str z'), y8, x9], μ ++ cl6 :: .dct [] :: .dct [] :: ρ', rfl, ?_⟩
  simp only [lawB, b16, e0, e1, x_dnew, l1, a1, e2, i2, e3, l2, a2, e4, i4, e5, rg, forG_nil, e6, rd, du, due_ne, rb, ref_ne, t1, t2, t3, c_strNs, b1, z1, k1, o1, o2, q1, q2, x_var, x_int, x_bl, x_str, x_non, x_glo, x_bin, x_un, x_cmp, x_cmp2, asBl_bl, x_and, x_or, x_not, x_ite, x_tup, x_lst, x_lstC, x_call, x_callK, x_mk, x_mkC, x_mkK, x_meth, x_attr, x_ix, x_bi, x_sl, x_fz, x_nil, x_cons, x_onone, asI_int, x_osome, x_tval, x_tand, x_tor, x_tnot, x_iseq, walkR_tup, walkR_lst, walkR_klst, x_irange1, x_irange2, x_itxt, walkT_str, x_ienum, enR_eq, x_izip, forG_nil, x_comp, compG_nil, x_cnone, x_csome, x_bm, x_dnew, wipeD_cons, wipeD_nil, s_set_, s_par_, s_unp_, s_ret_, s_retN_, s_drop_, s_ife_, s_fr_, s_brk_, s_ct_, s_pass_, s_never_, s_setIx_, s_setAttr_, s_nil_, s_cons_, bind_ok, toS_ok, seq_nx, seq_ret, seq_brk, seq_ct, loop_nx, loop_ct, loop_brk, loop_ret, toR_ret, toR_nx, bin_ints, intB_add, intB_sub, biS, toIntS, setAll, List.getElem?_cons_zero, List.getElem?_cons_succ, List.set_cons_zero, List.set_cons_succ, List.map_cons, List.map_nil, List.length_cons, List.length_nil, List.cons_append, List.nil_append, List.append_nil, List.replicate_succ, List.replicate_zero, Nat.reduceAdd, Nat.reduceSub, Nat.zero_add, Nat.reduceLeDiff, if_true, if_false, Bool.false_eq_true, decide_true, decide_false, Bool.not_true, Bool.not_false, x_eFld, x_eIs, s_raise_, s_raise0_, s_aug_, aug_add, aug_sub, s_tryA_, s_tryO_, catchA_nx, catchA_ret, catchA_brk, catchA_ct, catchO_nx, catchO_ret, catchO_brk, catchO_ct, gone_nx, gone_ret, gone_brk, gone_ct, noX_nx, noX_ret, noX_brk, noX_ct, bind_exc, toS_exc, seq_exc, loop_exc, toR_exc, eFldS, eIsS, gl0, gl1, gl2, gl3, gl4, gl5, gl6, xs0_0, xs0_1, xs0_2, xs0_3, xi1, xk1_0, ra1, xs1_0, xs1_1, xs1_2, xs1_3, xi2, xk2_0, xk2_1, ra2, xs2_0, xs2_1, xs2_2, xs2_3, mi3_19, mi3_20, mi3_21, mi3_22, mi3_23, mi3_24, mi3_25, mi3_26, mi3_27, mi3_28, mi3_29, mi3_30, mi3_31, mi3_32, mi3_33, mi3_34, mi3_35, mi3_36, mi3_37, mi3_38, mi3_39, mi3_40, mi3_41, fd3_0, fd3_1, ho3]
end K04
namespace K04
open PySem PySem.Spec PyProof.Rows L2 L3
/-! ### the long texts -/
abbrev nine : Str := Txt.join "" (List.replicate 60 ("9" : Str))
theorem out_one {z : Str} {o : Option (Int × Int)} (h1 : decide (47 ∉ TL.tl (bdS z)) = true) (h2 : outc (ngS z) (wZ (bdS z)) (some 1) false = o) : outZ z o := .inl ⟨of_decide_eq_true h1, h2.symm⟩
theorem out_two {z a b : Str} {o : Option (Int × Int)} (h0 : TL.tl (bdS z) = TL.tl (a ++ "/" ++ b)) (h1 : decide (47 ∉ TL.tl a) = true) (h2 : outc (ngS z) (wZ a) (wZ b) true = o) : outZ z o := .inr ⟨a, b, of_decide_eq_true h1, TL.ext_tl h0, h2.symm⟩
theorem o_nine : outZ nine (some (10 ^ 60 - 1, 1)) := out_one (by decide +kernel) (by decide +kernel)
theorem o_nine9 : outZ (nine ++ "9") none := out_one (by decide +kernel) (by decide +kernel)
theorem o_two : outZ ("1/" ++ nine) (some (1, 10 ^ 60 - 1)) := out_two (a := "1") (b := nine) (by decide +kernel) (by decide +kernel) (by decide +kernel)
theorem o_two9 : outZ ("1/" ++ nine ++ "9") none := out_two (a := "1") (b := nine ++ "9") (by decide +kernel) (by decide +kernel) (by decide +kernel)
theorem o_nil : outZ "" none := out_one (by decide +kernel) (by decide +kernel)
theorem l_nine : nine.length = 60 := by decide +kernel
theorem i_nine : PySem.intText? nine = some (10 ^ 60 - 1) := by
  rw [dig_int (by decide +kernel) (by decide +kernel) (by decide +kernel)]
  decide +kernel
abbrev longS : Str := Txt.join "" (List.replicate 1700 nine)
theorem l_long : longS.length = 102000 := by
  have q := (join_len (k := 60) (List.replicate 1700 nine) fun y hy => by rw [(List.mem_replicate.mp hy).2]; exact l_nine).1
  rw [q, List.length_replicate]
theorem o_long {z : Str} (h : 47 ∉ TL.tl z) (l : 61 < z.length) : outZ z none := by
  refine .inl ⟨?_, ?_⟩
  · unfold bdS
    split
    · intro hm
      rw [TL.tl_mk] at hm
      exact h (List.mem_of_mem_drop hm)
    · exact h
  · have w : wZ (bdS z) = none := by
      have lb : 60 < (bdS z).length := by
        unfold bdS
        split
        · rw [TL.len_tl, TL.tl_mk, List.length_drop, ← TL.len_tl]
          omega
        · omega
      unfold wZ
      rw [if_pos (.inr lb)]
    rw [w]
    rfl
theorem f_long : 47 ∉ TL.tl longS := by
  rw [join_tl]
  intro h
  obtain ⟨l, hl, hc⟩ := List.mem_flatten.mp h
  obtain ⟨y, hy, rfl⟩ := List.mem_map.mp hl
  rw [(List.mem_replicate.mp hy).2] at hc
  have : decide (47 ∈ TL.tl nine) = false := by decide +kernel
  exact absurd hc (of_decide_eq_false this)
/-- the same text, many times -/
theorem rep_ok {n k : Nat} {z : Str} {e : JE} {δ : Env3} {μ : Mu} (hk : k ≤ 1000000) (hδ : ∀ d, ∃ δ', (Tg.one 8).put d δ = some δ' ∧ ∀ m, semE S (runS S n) e δ' m = .ok (.str z) m) :
    ((compL (.one 8) (semC S (runS S n) .none) (semE S (runS S n) e) μ.length δ (irange 0 k) (μ ++ [.lst []])).bind fun d m => closeFz μ d m) = .ok (.lst ((List.replicate k z).map D.str)) μ := by
  have q := fz_comp (t := .one 8) (Ft := semC S (runS S n) .none) (Fe := semE S (runS S n) e) (δ := δ) (μ := μ) (f := fun _ => .str z) (g := fun _ => true) (ds := irange 0 k) (gs := []) (fun _ => gOk_nil) (by rw [irange_len]; exact hk)
    (fun v hv => by
      obtain ⟨δ', e1, e2⟩ := hδ v
      exact ⟨δ', e1, fun a => ⟨rfl, fun _ => e2 _⟩⟩)
    (fun v hv => rfl)
  rw [compG_nil] at q
  rw [q, filter_all, List.map_replicate]
  congr 2
  have : ∀ ds : List D, ds.map (fun _ => D.str z) = List.replicate ds.length (D.str z) := fun ds => by
    induction ds with
    | nil => rfl
    | cons d ds ih => rw [List.map_cons, ih]; rfl
  rw [this, irange_len]
theorem rg_ok {i : Int} {m : Mu} (h : smallI i = true) : rng1 (.int i) m = .ok (irange 0 i.toNat, []) m := rng1_ok h
abbrev endB : JB := restB 1 b16
theorem end_ok {n : Nat} {x0 x1 x2 x3 x4 x5 x6 x7 x8 x9 : Option D} {μ : Mu} : semB S (runS S (n + 4)) endB [x0, x1, x2, x3, x4, x5, x6, x7, x8, x9] μ = .ret (.bl true) μ := by
  have r1 := rep_ok (n := n + 4) (k := 60) (z := "9") (e := .str "9") (δ := [x0, x1, x2, x3, x4, x5, x6, x7, none, x9]) (μ := μ) (by decide) (fun d => ⟨_, rfl, fun m => rfl⟩)
  have r2 := rep_ok (n := n + 4) (k := 1700) (z := nine) (e := .var 9) (δ := [x0, x1, x2, x3, x4, x5, x6, x7, none, some (.str nine)]) (μ := μ) (by decide) (fun d => ⟨_, rfl, fun m => rfl⟩)
  obtain ⟨Y, hY⟩ : ∃ Y : List Str, Y = List.replicate 60 ("9" : Str) := ⟨_, rfl⟩
  have eN : Txt.join "" Y = nine := by rw [hY]
  obtain ⟨Z, hZ⟩ : ∃ Z : List Str, Z = List.replicate 1700 nine := ⟨_, rfl⟩
  have eL : Txt.join "" Z = longS := by rw [hZ]
  have sY : (Y.map (·.length)).sum ≤ 1000000 := by
    rw [hY]
    decide +kernel
  have sZ : (Z.map (·.length)).sum ≤ 1000000 := by
    have q := (join_len (k := 60) (List.replicate 1700 nine) fun y hy => by rw [(List.mem_replicate.mp hy).2]; exact l_nine).2
    rw [hZ, q, List.length_replicate]
    decide
  rw [← hY] at r1
  rw [← hZ] at r2
  clear hY hZ
  have g1 : ∀ m, rng1 (.int 60) m = .ok (irange 0 60, []) m := fun m => rng1_ok (by decide)
  have g2 : ∀ m, rng1 (.int 1700) m = .ok (irange 0 1700, []) m := fun m => rng1_ok (by decide)
  have w1 : wipeD [x0, x1, x2, x3, x4, x5, x6, x7, x8, x9] [8] = [x0, x1, x2, x3, x4, x5, x6, x7, none, x9] := rfl
  have w2 : wipeD [x0, x1, x2, x3, x4, x5, x6, x7, x8, some (.str nine)] [8] = [x0, x1, x2, x3, x4, x5, x6, x7, none, some (.str nine)] := rfl
  have j1 := jn_ok (args := semA S (runS S (n + 4)) (.cons (.fz (.comp [("_law_k", 8)] (.one 8) (.range1 (.int 60)) .none (.str "9"))) .nil) [x0, x1, x2, x3, x4, x5, x6, x7, x8, x9]) (m := μ) (m' := μ) (d := .lst (Y.map D.str)) (ys := Y)
    (by simp only [x_fz, x_comp, x_irange1, g1, List.map_cons, List.map_nil, w1, compG_nil, r1, x_var, x_int, x_bl, x_str, x_non, x_glo, x_bin, x_un, x_cmp, x_cmp2, asBl_bl, x_and, x_or, x_not, x_ite, x_tup, x_lst, x_lstC, x_call, x_callK, x_mk, x_mkC, x_mkK, x_meth, x_attr, x_ix, x_bi, x_sl, x_fz, x_nil, x_cons, x_onone, asI_int, x_osome, x_tval, x_tand, x_tor, x_tnot, x_iseq, walkR_tup, walkR_lst, walkR_klst, x_irange1, x_irange2, x_itxt, walkT_str, x_ienum, enR_eq, x_izip, forG_nil, x_comp, compG_nil, x_cnone, x_csome, x_bm, x_dnew, wipeD_cons, wipeD_nil, s_set_, s_par_, s_unp_, s_ret_, s_retN_, s_drop_, s_ife_, s_fr_, s_brk_, s_ct_, s_pass_, s_never_, s_setIx_, s_setAttr_, s_nil_, s_cons_, bind_ok, toS_ok, seq_nx, seq_ret, seq_brk, seq_ct, loop_nx, loop_ct, loop_brk, loop_ret, toR_ret, toR_nx, bin_ints, intB_add, intB_sub, biS, toIntS, setAll, List.getElem?_cons_zero, List.getElem?_cons_succ, List.set_cons_zero, List.set_cons_succ, List.map_cons, List.map_nil, List.length_cons, List.length_nil, List.cons_append, List.nil_append, List.append_nil, List.replicate_succ, List.replicate_zero, Nat.reduceAdd, Nat.reduceSub, Nat.zero_add, Nat.reduceLeDiff, if_true, if_false, Bool.false_eq_true, decide_true, decide_false, Bool.not_true, Bool.not_false, x_eFld, x_eIs, s_raise_, s_raise0_, s_aug_, aug_add, aug_sub, s_tryA_, s_tryO_, catchA_nx, catchA_ret, catchA_brk, catchA_ct, catchO_nx, catchO_ret, catchO_brk, catchO_ct, gone_nx, gone_ret, gone_brk, gone_ct, noX_nx, noX_ret, noX_brk, noX_ct, bind_exc, toS_exc, seq_exc, loop_exc, toR_exc, eFldS, eIsS, gl0, gl1, gl2, gl3, gl4, gl5, gl6, xs0_0, xs0_1, xs0_2, xs0_3, xi1, xk1_0, ra1, xs1_0, xs1_1, xs1_2, xs1_3, xi2, xk2_0, xk2_1, ra2, xs2_0, xs2_1, xs2_2, xs2_3, mi3_19, mi3_20, mi3_21, mi3_22, mi3_23, mi3_24, mi3_25, mi3_26, mi3_27, mi3_28, mi3_29, mi3_30, mi3_31, mi3_32, mi3_33, mi3_34, mi3_35, mi3_36, mi3_37, mi3_38, mi3_39, mi3_40, mi3_41, fd3_0, fd3_1, ho3]) rfl sY
  have j2 := jn_ok (args := semA S (runS S (n + 4)) (.cons (.fz (.comp [("_law_k", 8)] (.one 8) (.range1 (.int 1700)) .none (.var 9))) .nil) [x0, x1, x2, x3, x4, x5, x6, x7, x8, some (.str nine)]) (m := μ) (m' := μ) (d := .lst (Z.map D.str)) (ys := Z)
    (by simp only [x_fz, x_comp, x_irange1, g2, List.map_cons, List.map_nil, w2, compG_nil, r2, x_var, x_int, x_bl, x_str, x_non, x_glo, x_bin, x_un, x_cmp, x_cmp2, asBl_bl, x_and, x_or, x_not, x_ite, x_tup, x_lst, x_lstC, x_call, x_callK, x_mk, x_mkC, x_mkK, x_meth, x_attr, x_ix, x_bi, x_sl, x_fz, x_nil, x_cons, x_onone, asI_int, x_osome, x_tval, x_tand, x_tor, x_tnot, x_iseq, walkR_tup, walkR_lst, walkR_klst, x_irange1, x_irange2, x_itxt, walkT_str, x_ienum, enR_eq, x_izip, forG_nil, x_comp, compG_nil, x_cnone, x_csome, x_bm, x_dnew, wipeD_cons, wipeD_nil, s_set_, s_par_, s_unp_, s_ret_, s_retN_, s_drop_, s_ife_, s_fr_, s_brk_, s_ct_, s_pass_, s_never_, s_setIx_, s_setAttr_, s_nil_, s_cons_, bind_ok, toS_ok, seq_nx, seq_ret, seq_brk, seq_ct, loop_nx, loop_ct, loop_brk, loop_ret, toR_ret, toR_nx, bin_ints, intB_add, intB_sub, biS, toIntS, setAll, List.getElem?_cons_zero, List.getElem?_cons_succ, List.set_cons_zero, List.set_cons_succ, List.map_cons, List.map_nil, List.length_cons, List.length_nil, List.cons_append, List.nil_append, List.append_nil, List.replicate_succ, List.replicate_zero, Nat.reduceAdd, Nat.reduceSub, Nat.zero_add, Nat.reduceLeDiff, if_true, if_false, Bool.false_eq_true, decide_true, decide_false, Bool.not_true, Bool.not_false, x_eFld, x_eIs, s_raise_, s_raise0_, s_aug_, aug_add, aug_sub, s_tryA_, s_tryO_, catchA_nx, catchA_ret, catchA_brk, catchA_ct, catchO_nx, catchO_ret, catchO_brk, catchO_ct, gone_nx, gone_ret, gone_brk, gone_ct, noX_nx, noX_ret, noX_brk, noX_ct, bind_exc, toS_exc, seq_exc, loop_exc, toR_exc, eFldS, eIsS, gl0, gl1, gl2, gl3, gl4, gl5, gl6, xs0_0, xs0_1, xs0_2, xs0_3, xi1, xk1_0, ra1, xs1_0, xs1_1, xs1_2, xs1_3, xi2, xk2_0, xk2_1, ra2, xs2_0, xs2_1, xs2_2, xs2_3, mi3_19, mi3_20, mi3_21, mi3_22, mi3_23, mi3_24, mi3_25, mi3_26, mi3_27, mi3_28, mi3_29, mi3_30, mi3_31, mi3_32, mi3_33, mi3_34, mi3_35, mi3_36, mi3_37, mi3_38, mi3_39, mi3_40, mi3_41, fd3_0, fd3_1, ho3]) rfl sZ
  rw [eN] at j1
  rw [eL] at j2
  have ln := l_nine
  have l9 : ("9" : Str).length = 1 := by decide +kernel
  have l1 : ("1/" : Str).length = 2 := by decide +kernel
  have k1 := fun m => cat_str (run := runS S (n + 4)) (a := nine) (b := "9") (m := m) (by omega)
  have k2 := fun m => cat_str (run := runS S (n + 4)) (a := "1/") (b := nine) (m := m) (by omega)
  have k3 := fun m => cat_str (run := runS S (n + 4)) (a := "1/" ++ nine) (b := "9") (m := m) (by rw [app_len]; omega)
  have ti := i_nine
  have l640 : nine.length ≤ 640 := by omega
  have d1 := fun m => lread_ok (n := n) (μ := m) (by rw [ln]; decide) o_nine
  have d2 := fun m => lread_ok (n := n) (μ := m) (by rw [app_len, ln, l9]; decide) o_nine9
  have d3 := fun m => lread_ok (n := n) (μ := m) (by rw [app_len, ln, l1]; decide) o_two
  have d4 := fun m => lread_ok (n := n) (μ := m) (by rw [app_len, app_len, ln, l9, l1]; decide) o_two9
  have d5 := fun m => lread_ok (n := n) (μ := m) (by rw [l_long]; decide) (o_long f_long (by rw [l_long]; decide))
  have d6 := fun m => lread_ok (n := n) (μ := m) (by decide +kernel) o_nil
  have n1 : ∀ m, cmpS S (runS S (n + 4)) .NotEq (.tup [.str "told", .int (10 ^ 60 - 1), .int 1]) (.tup [.str "told", .int (10 ^ 60 - 1), .int 1]) m = .ok (.bl false) m := fun m => due_ne (o := some (10 ^ 60 - 1, 1))
  have n2 : ∀ m, cmpS S (runS S (n + 4)) .NotEq (.tup [.str "told", .int 1, .int (10 ^ 60 - 1)]) (.tup [.str "told", .int 1, .int (10 ^ 60 - 1)]) m = .ok (.bl false) m := fun m => due_ne (o := some (1, 10 ^ 60 - 1))
  simp only [dueO] at d1 d2 d3 d4 d5 d6
  have eL2 : longS = Txt.join "" Z := eL.symm
  clear r1 r2 sY sZ
  generalize longS = L at *
  generalize nine = N at *
  generalize (10 ^ 60 - 1 : Int) = K at *
  simp only [endB, restB, b16, j1, j2, d1, d2, d3, d4, d5, d6, k1, k2, k3, n1, n2, ti, l640, ref_ne, ref_eq, x_var, x_int, x_bl, x_str, x_non, x_glo, x_bin, x_un, x_cmp, x_cmp2, asBl_bl, x_and, x_or, x_not, x_ite, x_tup, x_lst, x_lstC, x_call, x_callK, x_mk, x_mkC, x_mkK, x_meth, x_attr, x_ix, x_bi, x_sl, x_fz, x_nil, x_cons, x_onone, asI_int, x_osome, x_tval, x_tand, x_tor, x_tnot, x_iseq, walkR_tup, walkR_lst, walkR_klst, x_irange1, x_irange2, x_itxt, walkT_str, x_ienum, enR_eq, x_izip, forG_nil, x_comp, compG_nil, x_cnone, x_csome, x_bm, x_dnew, wipeD_cons, wipeD_nil, s_set_, s_par_, s_unp_, s_ret_, s_retN_, s_drop_, s_ife_, s_fr_, s_brk_, s_ct_, s_pass_, s_never_, s_setIx_, s_setAttr_, s_nil_, s_cons_, bind_ok, toS_ok, seq_nx, seq_ret, seq_brk, seq_ct, loop_nx, loop_ct, loop_brk, loop_ret, toR_ret, toR_nx, bin_ints, intB_add, intB_sub, biS, toIntS, setAll, List.getElem?_cons_zero, List.getElem?_cons_succ, List.set_cons_zero, List.set_cons_succ, List.map_cons, List.map_nil, List.length_cons, List.length_nil, List.cons_append, List.nil_append, List.append_nil, List.replicate_succ, List.replicate_zero, Nat.reduceAdd, Nat.reduceSub, Nat.zero_add, Nat.reduceLeDiff, if_true, if_false, Bool.false_eq_true, decide_true, decide_false, Bool.not_true, Bool.not_false, x_eFld, x_eIs, s_raise_, s_raise0_, s_aug_, aug_add, aug_sub, s_tryA_, s_tryO_, catchA_nx, catchA_ret, catchA_brk, catchA_ct, catchO_nx, catchO_ret, catchO_brk, catchO_ct, gone_nx, gone_ret, gone_brk, gone_ct, noX_nx, noX_ret, noX_brk, noX_ct, bind_exc, toS_exc, seq_exc, loop_exc, toR_exc, eFldS, eIsS, gl0, gl1, gl2, gl3, gl4, gl5, gl6, xs0_0, xs0_1, xs0_2, xs0_3, xi1, xk1_0, ra1, xs1_0, xs1_1, xs1_2, xs1_3, xi2, xk2_0, xk2_1, ra2, xs2_0, xs2_1, xs2_2, xs2_3, mi3_19, mi3_20, mi3_21, mi3_22, mi3_23, mi3_24, mi3_25, mi3_26, mi3_27, mi3_28, mi3_29, mi3_30, mi3_31, mi3_32, mi3_33, mi3_34, mi3_35, mi3_36, mi3_37, mi3_38, mi3_39, mi3_40, mi3_41, fd3_0, fd3_1, ho3]
end K04
theorem K04.law_loop (n : Nat) : ∀ (ns : List Int) (δ : L3.Env3) (μ : L3.Mu), δ.length = 10 → ∃ δ' μ', δ'.length = 10 ∧ L3.forL (.one 1) (L3.semB K04.S (L3.runS K04.S (n + 4)) K04.lawB) (ns.map L3.D.int) δ μ = .nx δ' μ'
  | [], δ, μ, l => ⟨δ, μ, l, rfl⟩
  | c :: r, δ, μ, l => by
    match δ, l with
    | [x0, x1, x2, x3, x4, x5, x6, x7, x8, x9], _ =>
      obtain ⟨δ1, μ1, l1, e1⟩ := K04.law_turn n c x0 x2 x3 x4 x5 x6 x7 x8 x9 μ
      obtain ⟨δ2, μ2, l2, e2⟩ := K04.law_loop n r δ1 μ1 l1
      refine ⟨δ2, μ2, l2, ?_⟩
      rw [List.map_cons, K04.forL_put (δ' := [x0, some (.int c), x2, x3, x4, x5, x6, x7, x8, x9]) rfl, e1, L3.loop_nx, e2]
namespace K04
open PySem PySem.Spec PyProof.Rows L2 L3
theorem cut_ints (ns : List Int) : ∃ ms : List Int, L3.cutD (ns.map D.int) none (some 40) = ms.map D.int := ⟨_, by
  unfold L3.cutD
  rw [← List.map_drop, ← List.map_take]⟩
theorem slice_ints {ns : List Int} {m : Mu} : ∃ ms : List Int, slS false (.klst (ns.map D.int)) none (some 40) m = .ok (.lst (ms.map D.int)) m := by
  obtain ⟨ms, e⟩ := cut_ints ns
  exact ⟨ms, by rw [← e]; rfl⟩
theorem law_pure (ns : List Int) : ∃ μ, runS S 20 16 [.klst (ns.map D.int)] [] = .ok (.bl true) μ := by
  rw [run_raw (fi := f16) rfl rfl rfl]
  obtain ⟨ms, e⟩ := slice_ints (ns := ns) (m := [])
  obtain ⟨δ, μ, l, h⟩ := law_loop 15 ms ([.klst (ns.map D.int)].map some ++ List.replicate (f16.N.length - [D.klst (ns.map D.int)].length) none) [] rfl
  refine ⟨μ, ?_⟩
  have h1 : semI S (runS S 19) (.seq (.sl false (.var 0) .none (.some (.int 40)))) ([.klst (ns.map D.int)].map some ++ List.replicate (f16.N.length - [D.klst (ns.map D.int)].length) none) [] = .ok (ms.map D.int, []) [] := by
    simp only [x_iseq, walkR_lst, x_sl, x_var, x_onone, x_osome, x_int, bind_ok, asI_int, List.map_cons, List.cons_append, List.getElem?_cons_zero, e]
  have hb : f16.body = .cons (.fr (.one 1) (.seq (.sl false (.var 0) .none (.some (.int 40)))) lawB) endB := rfl
  have h2 : forL (.one 1) (semB S (runS S 19) lawB) (ms.map D.int) ([.klst (ns.map D.int)].map some ++ List.replicate (f16.N.length - [D.klst (ns.map D.int)].length) none) [] = .nx δ μ := h
  rw [hb, s_cons_, s_fr_, h1, toS_ok]
  simp only [forG_nil]
  rw [h2, seq_nx]
  match δ, l with
  | [x0, x1, x2, x3, x4, x5, x6, x7, x8, x9], _ =>
    have q := end_ok (n := 15) (x0 := x0) (x1 := x1) (x2 := x2) (x3 := x3) (x4 := x4) (x5 := x5) (x6 := x6) (x7 := x7) (x8 := x8) (x9 := x9) (μ := μ)
    rw [q, toR_ret]
end K04


set_option maxRecDepth 100000
set_option maxHeartbeats 0
namespace K04
open PySem PySem.Spec PyProof.Rows L2 L3
theorem bn0 : BnF f0 := .no rfl fun kV doc pm an cdv ct us h => match us, h with | [_], _ => by kernel_rfl
theorem ck0 : chkF S 200 f0 = true := by decide +kernel
theorem bn1 : BnF f1 := .no rfl fun kV doc pm an cdv ct us h => match us, h with | [_, _], _ => by kernel_rfl
theorem ck1 : chkF S 200 f1 = true := by decide +kernel
theorem bn2 : BnF f2 := .no rfl fun kV doc pm an cdv ct us h => match us, h with | [_], _ => by kernel_rfl
theorem ck2 : chkF S 200 f2 = true := by decide +kernel
theorem bn3 : BnF f3 := .no rfl fun kV doc pm an cdv ct us h => match us, h with | [_], _ => by kernel_rfl
theorem ck3 : chkF S 200 f3 = true := by decide +kernel
theorem bn4 : BnF f4 := .no rfl fun kV doc pm an cdv ct us h => match us, h with | [_, _, _], _ => by kernel_rfl
theorem ck4 : chkF S 200 f4 = true := by decide +kernel
theorem bn5 : BnF f5 := .no rfl fun kV doc pm an cdv ct us h => match us, h with | [_], _ => by kernel_rfl
theorem ck5 : chkF S 200 f5 = true := by decide +kernel
theorem bn6 : BnF f6 := .no rfl fun kV doc pm an cdv ct us h => match us, h with | [_], _ => by kernel_rfl
theorem ck6 : chkF S 200 f6 = true := by decide +kernel
theorem bn7 : BnF f7 := .no rfl fun kV doc pm an cdv ct us h => match us, h with | [_, _], _ => by kernel_rfl
theorem ck7 : chkF S 200 f7 = true := by decide +kernel
theorem bn8 : BnF f8 := .no rfl fun kV doc pm an cdv ct us h => match us, h with | [_], _ => by kernel_rfl
theorem ck8 : chkF S 200 f8 = true := by decide +kernel
theorem bn9 : BnF f9 := .no rfl fun kV doc pm an cdv ct us h => match us, h with | [_, _], _ => by kernel_rfl
theorem ck9 : chkF S 200 f9 = true := by decide +kernel
theorem bn10 : BnF f10 := .no rfl fun kV doc pm an cdv ct us h => match us, h with | [_], _ => by kernel_rfl
theorem ck10 : chkF S 200 f10 = true := by decide +kernel
theorem bn11 : BnF f11 := .no rfl fun kV doc pm an cdv ct us h => match us, h with | [_, _], _ => by kernel_rfl
theorem ck11 : chkF S 200 f11 = true := by decide +kernel
theorem bn12 : BnF f12 := .no rfl fun kV doc pm an cdv ct us h => match us, h with | [_], _ => by kernel_rfl
theorem ck12 : chkF S 200 f12 = true := by decide +kernel
theorem bn13 : BnF f13 := .no rfl fun kV doc pm an cdv ct us h => match us, h with | [_], _ => by kernel_rfl
theorem ck13 : chkF S 200 f13 = true := by decide +kernel
theorem bn14 : BnF f14 := .no rfl fun kV doc pm an cdv ct us h => match us, h with | [_], _ => by kernel_rfl
theorem ck14 : chkF S 200 f14 = true := by decide +kernel
theorem bn15 : BnF f15 := .no rfl fun kV doc pm an cdv ct us h => match us, h with | [_, _], _ => by kernel_rfl
theorem ck15 : chkF S 200 f15 = true := by decide +kernel
theorem bn16 : BnF f16 := .no rfl fun kV doc pm an cdv ct us h => match us, h with | [_], _ => by kernel_rfl
theorem ck16 : chkF S 200 f16 = true := by decide +kernel
theorem bn17 : BnF f17 := .no rfl fun kV doc pm an cdv ct us h => match us, h with | [_, _], _ => by kernel_rfl
theorem ck17 : chkF S 200 f17 = true := by decide +kernel
theorem bn18 : BnF f18 := .no rfl fun kV doc pm an cdv ct us h => match us, h with | [_, _, _], _ => by kernel_rfl
theorem ck18 : chkF S 200 f18 = true := by decide +kernel
theorem bn19 : BnF f19 := .df (by decide) fun T kV doc pm an cdv ct us its h1 h2 => match us, its, h1, h2 with | [_, _, _], [_], _, _ => ⟨_, rfl, by kernel_rfl⟩
theorem ck19 : chkF S 200 f19 = true := by decide +kernel
theorem bn20 : BnF f20 := .no rfl fun kV doc pm an cdv ct us h => match us, h with | [_, _], _ => by kernel_rfl
theorem ck20 : chkF S 200 f20 = true := by decide +kernel
theorem bn21 : BnF f21 := .no rfl fun kV doc pm an cdv ct us h => match us, h with | [_, _], _ => by kernel_rfl
theorem ck21 : chkF S 200 f21 = true := by decide +kernel
theorem bn22 : BnF f22 := .no rfl fun kV doc pm an cdv ct us h => match us, h with | [_, _], _ => by kernel_rfl
theorem ck22 : chkF S 200 f22 = true := by decide +kernel
theorem bn23 : BnF f23 := .no rfl fun kV doc pm an cdv ct us h => match us, h with | [_, _], _ => by kernel_rfl
theorem ck23 : chkF S 200 f23 = true := by decide +kernel
theorem bn24 : BnF f24 := .no rfl fun kV doc pm an cdv ct us h => match us, h with | [_, _], _ => by kernel_rfl
theorem ck24 : chkF S 200 f24 = true := by decide +kernel
theorem bn25 : BnF f25 := .no rfl fun kV doc pm an cdv ct us h => match us, h with | [_, _], _ => by kernel_rfl
theorem ck25 : chkF S 200 f25 = true := by decide +kernel
theorem bn26 : BnF f26 := .no rfl fun kV doc pm an cdv ct us h => match us, h with | [_, _], _ => by kernel_rfl
theorem ck26 : chkF S 200 f26 = true := by decide +kernel
theorem bn27 : BnF f27 := .no rfl fun kV doc pm an cdv ct us h => match us, h with | [_, _], _ => by kernel_rfl
theorem ck27 : chkF S 200 f27 = true := by decide +kernel
theorem bn28 : BnF f28 := .no rfl fun kV doc pm an cdv ct us h => match us, h with | [_, _], _ => by kernel_rfl
theorem ck28 : chkF S 200 f28 = true := by decide +kernel
theorem bn29 : BnF f29 := .no rfl fun kV doc pm an cdv ct us h => match us, h with | [_, _], _ => by kernel_rfl
theorem ck29 : chkF S 200 f29 = true := by decide +kernel
theorem bn30 : BnF f30 := .no rfl fun kV doc pm an cdv ct us h => match us, h with | [_], _ => by kernel_rfl
theorem ck30 : chkF S 200 f30 = true := by decide +kernel
theorem bn31 : BnF f31 := .no rfl fun kV doc pm an cdv ct us h => match us, h with | [_], _ => by kernel_rfl
theorem ck31 : chkF S 200 f31 = true := by decide +kernel
theorem bn32 : BnF f32 := .no rfl fun kV doc pm an cdv ct us h => match us, h with | [_], _ => by kernel_rfl
theorem ck32 : chkF S 200 f32 = true := by decide +kernel
theorem bn33 : BnF f33 := .no rfl fun kV doc pm an cdv ct us h => match us, h with | [_, _], _ => by kernel_rfl
theorem ck33 : chkF S 200 f33 = true := by decide +kernel
theorem bn34 : BnF f34 := .no rfl fun kV doc pm an cdv ct us h => match us, h with | [_, _], _ => by kernel_rfl
theorem ck34 : chkF S 200 f34 = true := by decide +kernel
theorem bn35 : BnF f35 := .no rfl fun kV doc pm an cdv ct us h => match us, h with | [_, _], _ => by kernel_rfl
theorem ck35 : chkF S 200 f35 = true := by decide +kernel
theorem bn36 : BnF f36 := .no rfl fun kV doc pm an cdv ct us h => match us, h with | [_, _], _ => by kernel_rfl
theorem ck36 : chkF S 200 f36 = true := by decide +kernel
theorem bn37 : BnF f37 := .no rfl fun kV doc pm an cdv ct us h => match us, h with | [_, _], _ => by kernel_rfl
theorem ck37 : chkF S 200 f37 = true := by decide +kernel
theorem bn38 : BnF f38 := .no rfl fun kV doc pm an cdv ct us h => match us, h with | [_, _], _ => by kernel_rfl
theorem ck38 : chkF S 200 f38 = true := by decide +kernel
theorem bn39 : BnF f39 := .no rfl fun kV doc pm an cdv ct us h => match us, h with | [_, _], _ => by kernel_rfl
theorem ck39 : chkF S 200 f39 = true := by decide +kernel
theorem bn40 : BnF f40 := .no rfl fun kV doc pm an cdv ct us h => match us, h with | [_, _], _ => by kernel_rfl
theorem ck40 : chkF S 200 f40 = true := by decide +kernel
theorem bn41 : BnF f41 := .no rfl fun kV doc pm an cdv ct us h => match us, h with | [_], _ => by kernel_rfl
theorem ck41 : chkF S 200 f41 = true := by decide +kernel
theorem bn42 : BnF f42 := .no rfl fun kV doc pm an cdv ct us h => match us, h with | [_], _ => by kernel_rfl
theorem ck42 : chkF S 200 f42 = true := by decide +kernel
theorem sh0 : ShF f19 h0 := .df (by decide) (by decide) rfl fun T kV doc pm an cdv ct us its ws l1 l2 l3 => match us, its, ws, l1, l2, l3 with | [_, _], [_], [], _, _, _ => ⟨_, rfl, by kernel_rfl⟩
theorem bnA : Alls BnF S.fs := .cons bn0 (.cons bn1 (.cons bn2 (.cons bn3 (.cons bn4 (.cons bn5 (.cons bn6 (.cons bn7 (.cons bn8 (.cons bn9 (.cons bn10 (.cons bn11 (.cons bn12 (.cons bn13 (.cons bn14 (.cons bn15 (.cons bn16 (.cons bn17 (.cons bn18 (.cons bn19 (.cons bn20 (.cons bn21 (.cons bn22 (.cons bn23 (.cons bn24 (.cons bn25 (.cons bn26 (.cons bn27 (.cons bn28 (.cons bn29 (.cons bn30 (.cons bn31 (.cons bn32 (.cons bn33 (.cons bn34 (.cons bn35 (.cons bn36 (.cons bn37 (.cons bn38 (.cons bn39 (.cons bn40 (.cons bn41 (.cons bn42 (.nil)))))))))))))))))))))))))))))))))))))))))))
theorem ckA : Alls (fun f => chkF S 200 f = true) S.fs := .cons ck0 (.cons ck1 (.cons ck2 (.cons ck3 (.cons ck4 (.cons ck5 (.cons ck6 (.cons ck7 (.cons ck8 (.cons ck9 (.cons ck10 (.cons ck11 (.cons ck12 (.cons ck13 (.cons ck14 (.cons ck15 (.cons ck16 (.cons ck17 (.cons ck18 (.cons ck19 (.cons ck20 (.cons ck21 (.cons ck22 (.cons ck23 (.cons ck24 (.cons ck25 (.cons ck26 (.cons ck27 (.cons ck28 (.cons ck29 (.cons ck30 (.cons ck31 (.cons ck32 (.cons ck33 (.cons ck34 (.cons ck35 (.cons ck36 (.cons ck37 (.cons ck38 (.cons ck39 (.cons ck40 (.cons ck41 (.cons ck42 (.nil)))))))))))))))))))))))))))))))))))))))))))
theorem shA : Alls2 S S.sh := .cons rfl sh0 (.nil)
def loose0 : List Str := ["_wall", "__name__", "AlignError", "NoRatio", "NoBoxes", "DIGITS", "MOST_POWER", "MOST_DIGITS", "is_integer", "common_divisor", "Ratio", "is_number", "parts_of", "power_of", "whole_of", "_law_stream", "_law_draw", "_law_top", "_law_shared", "_law_text", "_law_changed", "_law_whole", "_law_due", "_law_read", "_law_made"]
def loose : List Str := loose0
abbrev R : PySem.W.OpenRow := PySem.W.OpenLaw.row PySem.Challenge.rw_alignscripts_k04_ratio_refusals
def ob (s : PySem.W.SharedT) : He.AlD := obsX S 5 (HandSHeadRun.getT s)
theorem ob_eq (s : PySem.W.SharedT) : ob s = (hookX S 5).obs s.abs := obsX_eq (HandSHeadRun.getT_eq s)
theorem chk : chkS S = true := by decide +kernel
theorem run (w : World) : HandSHeadRun.RunEq R (PySem.W.view R.prog [27]) (hookX S 5) ob 30000 loose w := by
  intro os
  kernel_rfl
end K04
open PySem PySem.W PySem.Calls PyProof.Rows
theorem PySem.Challenge.cw_alignscripts_k04_ratio_refusals_holds : PySem.Challenge.rw_alignscripts_k04_ratio_refusals.Holds := by
  w_on; o_law
  refine HandSHeadRun.head_any (r := OpenLaw.row PySem.Challenge.rw_alignscripts_k04_ratio_refusals) (q := view (OpenLaw.row PySem.Challenge.rw_alignscripts_k04_ratio_refusals).prog [27]) (H := L3.hookX K04.S 5) (ob := K04.ob) (M := 30000) (loose := K04.loose) (d := HandSHeadRun.topDef (OpenLaw.row PySem.Challenge.rw_alignscripts_k04_ratio_refusals).prog 27) (kwd := []) K04.ob_eq
    (by kernel_rfl) (fun s => by kernel_rfl) K04.run (by kernel_rfl) (by kernel_rfl) (by kernel_rfl) (by rfl) (by first | assumption | decide +kernel) (by decide +kernel) ⟨rfl, rfl, rfl, rfl, rfl, by decide +kernel⟩ ?hw ?hc
  case hw => w_witness2
  case hc =>
    exact L3.law_walk (l := PySem.Challenge.rw_alignscripts_k04_ratio_refusals) (S := K04.S) (li := 16) (n := 20) (fl := K04.f16) (x := "_law_script") rfl (by kernel_rfl) ⟨rfl, by decide, by decide⟩ K04.chk rfl (by kernel_rfl) rfl rfl (fun _ _ e => K04.bnA.get e) (fun _ _ e => ⟨200, K04.ckA.get e⟩) (fun _ _ _ e1 e2 => K04.shA.get e1 e2)
      (fun kV doc pm an cdv ct us h => match us, h with | [_], _ => by kernel_rfl) (fun ns _ => K04.law_pure ns)

