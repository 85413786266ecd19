import PyProof.Rows.All
import Wide.All
import OpenK.AllK
import Wide.FinOn
import HandS.ForMost
import HandS.Exc
import HandS.TryOnly
import HandS.TryMany
import HandS.ExcOwn
import HandS.Wide
import HandS.TupAny
import HandS.TupMul
import HandS.IsInst
import KE.DataCmp
import KE.DataFind
import HandS.FStr
import HandS.Replace
import KE.SortData
import KE.DatumIndex
import HandS.Style
import HandS.EndBits
import HandS.HeadEnd
import HandS.Head2
import HandS.HeadHook2
import HandS.Defaults
import HandS.SortKw
import HandS.Deep
import KE.DataMinMax
import PySem.Challenge.RW_plughall_k14_whole_how_far_an_offer_goes
set_option Elab.async false
set_option linter.all false
set_option maxRecDepth 100000
/-! Dl: data-level readings over the hand layer. A value is said by a datum (PyData); an expression by a function on the frame's data. -/
namespace Dl
open PySem PySem.Spec PyProof.Rows L2

abbrev D := PyData
abbrev St := L2.St
abbrev Msk := Addr → Prop
/-- a dict's key as a datum -/
def kD : Key → D
  | .inl i => .int i
  | .inr x => .str x

/-! ### values that stand for data; M: addresses that are out of bounds -/
/-- a list that the module's top has made (or the script, where it is one) -/
def KwL (K : PySem.W.Frag) (a : Addr) (xs : List V) : Prop := ∃ (its : List Value) (n : Nat), K.lookup a = some { cls := .type "list", data := .seq its.toArray n } ∧ xs.length ≤ sizeLine ∧ Vals xs its
theorem KwL.sq {K : PySem.W.Frag} {H : Hp} {a : Addr} {xs : List V} (h : KwL K a xs) : SqL K H a xs := by
  obtain ⟨its, n, e, hz, r⟩ := h
  refine .inr ⟨_, its.toArray, n, e, rfl, rfl, rfl, ?_, by simpa using r⟩
  have := r.length
  rw [List.size_toArray]
  omega
def LstAt (K : PySem.W.Frag) (M : Msk) (H : Hp) (a : Addr) (xs : List V) : Prop := (¬ M a ∧ Rd H a (.lst xs)) ∨ KwL K a xs
/-- a list that is looked at -/
def LsR (K : PySem.W.Frag) (H : Hp) (a : Addr) (xs : List V) : Prop := Rd H a (.lst xs) ∨ KwL K a xs
theorem LsR.sq {K : PySem.W.Frag} {H : Hp} {a : Addr} {xs : List V} : LsR K H a xs → SqL K H a xs
  | .inl r => .inl r
  | .inr h => h.sq
theorem LstAt.ls {K : PySem.W.Frag} {M : Msk} {H : Hp} {a : Addr} {xs : List V} : LstAt K M H a xs → LsR K H a xs
  | .inl h => .inl h.2
  | .inr h => .inr h
def TupAt (K : PySem.W.Frag) (M : Msk) (H : Hp) (a : Addr) (xs : List V) : Prop := (¬ M a ∧ Rd H a (.tup xs)) ∨ ∀ G, SqT K G a xs
def DicAt (M : Msk) (H : Hp) (a : Addr) (kv : List (Key × V)) : Prop := ¬ M a ∧ Rd H a (.dK kv)
mutual
def Dat (K : PySem.W.Frag) (M : Msk) (H : Hp) : D → V → Prop
  | .none, v => v = .non
  | .bool b, v => v = .bl b
  | .int i, v => v = .int i
  | .str s, v => v = .str s
  | .list ds, v => ∃ a xs, v = .ref a ∧ LstAt K M H a xs ∧ DatAll K M H ds xs
  | .tuple ds, v => ∃ a xs, v = .ref a ∧ TupAt K M H a xs ∧ DatAll K M H ds xs
  | .dict ds, v => ∃ a kv, v = .ref a ∧ DicAt M H a kv ∧ DatKV K M H ds kv
def DatAll (K : PySem.W.Frag) (M : Msk) (H : Hp) : List D → List V → Prop
  | [], vs => vs = []
  | d :: ds, vs => ∃ v r, vs = v :: r ∧ Dat K M H d v ∧ DatAll K M H ds r
def DatKV (K : PySem.W.Frag) (M : Msk) (H : Hp) : List (D × D) → List (Key × V) → Prop
  | [], kv => kv = []
  | (k, d) :: ds, kv => ∃ j v r, kv = (j, v) :: r ∧ k = kD j ∧ Dat K M H d v ∧ DatKV K M H ds r
end
/-- what may be read through M, H may be read through M', H' -/
def Mv (M : Msk) (H : Hp) (M' : Msk) (H' : Hp) : Prop := ∀ a o, ¬ M a → H a = some o → ¬ M' a ∧ H' a = some o
theorem Mv.refl {M : Msk} {H : Hp} : Mv M H M H := fun _ _ n e => ⟨n, e⟩
theorem Mv.trans {M M1 M2 : Msk} {H H1 H2 : Hp} (a : Mv M H M1 H1) (b : Mv M1 H1 M2 H2) : Mv M H M2 H2 := fun x o n e => by
  obtain ⟨n1, e1⟩ := a x o n e
  exact b x o n1 e1
theorem Mv.rd {M M' : Msk} {H H' : Hp} (m : Mv M H M' H') {a : Addr} {u : HO} (n : ¬ M a) (r : Rd H a u) : ¬ M' a ∧ Rd H' a u := by
  rcases r with r | ⟨o, r⟩
  · obtain ⟨n1, e1⟩ := m a _ n r
    exact ⟨n1, .inl e1⟩
  · obtain ⟨n1, e1⟩ := m a _ n r
    exact ⟨n1, .inr ⟨o, e1⟩⟩
section
variable {K : PySem.W.Frag} {M M' : Msk} {H H' : Hp}
theorem LstAt.mv (m : Mv M H M' H') {a : Addr} {xs : List V} : LstAt K M H a xs → LstAt K M' H' a xs
  | .inl ⟨n, r⟩ => .inl (m.rd n r)
  | .inr h => .inr h
theorem TupAt.mv (m : Mv M H M' H') {a : Addr} {xs : List V} : TupAt K M H a xs → TupAt K M' H' a xs
  | .inl ⟨n, r⟩ => .inl (m.rd n r)
  | .inr h => .inr h
theorem LstAt.sq {a : Addr} {xs : List V} : LstAt K M H a xs → SqL K H a xs
  | .inl ⟨_, r⟩ => .inl r
  | .inr h => h.sq
theorem TupAt.sq {a : Addr} {xs : List V} : TupAt K M H a xs → SqT K H a xs
  | .inl ⟨_, r⟩ => .inl r
  | .inr h => h H
mutual
theorem Dat.mv (m : Mv M H M' H') : ∀ {d : D} {v : V}, Dat K M H d v → Dat K M' H' d v
  | .none, _, h => h
  | .bool _, _, h => h
  | .int _, _, h => h
  | .str _, _, h => h
  | .list ds, _, h => by
    simp only [Dat] at h ⊢
    obtain ⟨a, xs, e, l, r⟩ := h
    exact ⟨a, xs, e, l.mv m, DatAll.mv m r⟩
  | .tuple ds, _, h => by
    simp only [Dat] at h ⊢
    obtain ⟨a, xs, e, l, r⟩ := h
    exact ⟨a, xs, e, l.mv m, DatAll.mv m r⟩
  | .dict ds, _, h => by
    simp only [Dat] at h ⊢
    obtain ⟨a, xs, e, l, r⟩ := h
    exact ⟨a, xs, e, m.rd l.1 l.2, DatKV.mv m r⟩
theorem DatAll.mv (m : Mv M H M' H') : ∀ {ds : List D} {vs : List V}, DatAll K M H ds vs → DatAll K M' H' ds vs
  | [], _, h => by
    simp only [DatAll] at h ⊢
    exact h
  | d :: ds, _, h => by
    simp only [DatAll] at h ⊢
    obtain ⟨v, r, e, h1, h2⟩ := h
    exact ⟨v, r, e, Dat.mv m h1, DatAll.mv m h2⟩
theorem DatKV.mv (m : Mv M H M' H') : ∀ {ds : List (D × D)} {kv : List (Key × V)}, DatKV K M H ds kv → DatKV K M' H' ds kv
  | [], _, h => by
    simp only [DatKV] at h ⊢
    exact h
  | (k, d) :: ds, _, h => by
    simp only [DatKV] at h ⊢
    obtain ⟨j, v, r, e, ek, h1, h2⟩ := h
    exact ⟨j, v, r, e, ek, Dat.mv m h1, DatKV.mv m h2⟩
end
theorem DatAll.nil : DatAll K M H [] [] := by simp only [DatAll]
theorem DatAll.cons {d : D} {v : V} {ds : List D} {vs : List V} (h : Dat K M H d v) (t : DatAll K M H ds vs) : DatAll K M H (d :: ds) (v :: vs) := by
  simp only [DatAll]
  exact ⟨v, vs, rfl, h, t⟩
theorem DatAll.cons_inv {d : D} {ds : List D} {vs : List V} (h : DatAll K M H (d :: ds) vs) : ∃ v r, vs = v :: r ∧ Dat K M H d v ∧ DatAll K M H ds r := by
  simpa only [DatAll] using h
theorem DatAll.nil_inv {vs : List V} (h : DatAll K M H [] vs) : vs = [] := by simpa only [DatAll] using h
theorem DatAll.length : ∀ {ds : List D} {vs : List V}, DatAll K M H ds vs → vs.length = ds.length
  | [], _, h => by rw [h.nil_inv]; rfl
  | d :: ds, _, h => by
    obtain ⟨v, r, rfl, _, h2⟩ := h.cons_inv
    rw [List.length_cons, List.length_cons, h2.length]
theorem DatAll.append : ∀ {ds es : List D} {vs us : List V}, DatAll K M H ds vs → DatAll K M H es us → DatAll K M H (ds ++ es) (vs ++ us)
  | [], _, _, _, h, g => by rw [h.nil_inv]; exact g
  | d :: ds, _, _, _, h, g => by
    obtain ⟨v, r, rfl, h1, h2⟩ := h.cons_inv
    exact .cons h1 (h2.append g)
theorem DatAll.get : ∀ {ds : List D} {vs : List V} {i : Nat} {d : D}, DatAll K M H ds vs → ds[i]? = some d → ∃ v, vs[i]? = some v ∧ Dat K M H d v
  | [], _, _, _, _, e => by simp at e
  | d :: ds, _, 0, _, h, e => by
    obtain ⟨v, r, rfl, h1, _⟩ := h.cons_inv
    simp at e
    subst e
    exact ⟨v, rfl, h1⟩
  | d :: ds, _, i + 1, _, h, e => by
    obtain ⟨v, r, rfl, _, h2⟩ := h.cons_inv
    obtain ⟨u, e1, e2⟩ := h2.get (i := i) (by simpa using e)
    exact ⟨u, by simpa using e1, e2⟩
theorem DatAll.get' : ∀ {ds : List D} {vs : List V} {i : Nat} {v : V}, DatAll K M H ds vs → vs[i]? = some v → ∃ d, ds[i]? = some d ∧ Dat K M H d v
  | [], _, _, _, h, e => by
    rw [h.nil_inv] at e
    simp at e
  | d :: ds, _, 0, _, h, e => by
    obtain ⟨v, r, rfl, h1, _⟩ := h.cons_inv
    simp at e
    subst e
    exact ⟨d, rfl, h1⟩
  | d :: ds, _, i + 1, _, h, e => by
    obtain ⟨v, r, rfl, _, h2⟩ := h.cons_inv
    obtain ⟨u, e1, e2⟩ := h2.get' (i := i) (by simpa using e)
    exact ⟨u, by simpa using e1, e2⟩
theorem DatAll.take : ∀ {ds : List D} {vs : List V} (n : Nat), DatAll K M H ds vs → DatAll K M H (ds.take n) (vs.take n)
  | [], _, n, h => by rw [h.nil_inv]; simp [DatAll.nil]
  | d :: ds, _, 0, h => by simp [DatAll.nil]
  | d :: ds, _, n + 1, h => by
    obtain ⟨v, r, rfl, h1, h2⟩ := h.cons_inv
    exact .cons h1 (h2.take n)
theorem DatAll.drop : ∀ {ds : List D} {vs : List V} (n : Nat), DatAll K M H ds vs → DatAll K M H (ds.drop n) (vs.drop n)
  | [], _, n, h => by rw [h.nil_inv]; simp [DatAll.nil]
  | d :: ds, _, 0, h => h
  | d :: ds, _, n + 1, h => by
    obtain ⟨v, r, rfl, h1, h2⟩ := h.cons_inv
    exact h2.drop n
theorem DatAll.set : ∀ {ds : List D} {vs : List V} {d : D} {v : V} (i : Nat), DatAll K M H ds vs → Dat K M H d v → DatAll K M H (ds.set i d) (vs.set i v)
  | [], _, _, _, _, h, _ => by rw [h.nil_inv]; exact .nil
  | d :: ds, _, _, _, 0, h, g => by
    obtain ⟨u, r, rfl, h1, h2⟩ := h.cons_inv
    exact .cons g h2
  | d :: ds, _, _, _, i + 1, h, g => by
    obtain ⟨u, r, rfl, h1, h2⟩ := h.cons_inv
    exact .cons h1 (h2.set i g)
theorem DatAll.reverse : ∀ {ds : List D} {vs : List V}, DatAll K M H ds vs → DatAll K M H ds.reverse vs.reverse
  | [], _, h => by rw [h.nil_inv]; exact .nil
  | d :: ds, _, h => by
    obtain ⟨u, r, rfl, h1, h2⟩ := h.cons_inv
    rw [List.reverse_cons, List.reverse_cons]
    exact h2.reverse.append (.cons h1 .nil)
theorem DatAll.ints : ∀ (ns : List Int), DatAll K M H (ns.map .int) (ns.map .int)
  | [] => .nil
  | n :: ns => .cons (by simp only [Dat]) (DatAll.ints ns)
end

/-! ### the frame's data -/
/-- a refusal in the air: its class's name, its fields -/
structure Exn where
  cls : Str
  fs : List (Str × D)
/-- what is known of a slot: a datum; a container that nobody else holds; one that is the caller's, lent; an exception that is handled -/
inductive Cell where
  | val (d : D)
  | own (d : D)
  | ref (d : D)
  | exc (a : Addr) (dd : Option Addr) (x : Exn)
abbrev DEnv := List (Option Cell)

/-- the container at a holds d -/
def Cont (K : PySem.W.Frag) (M : Msk) (H : Hp) (a : Addr) : D → Prop
  | .list ds => ∃ xs, H a = some (.lst xs) ∧ DatAll K M H ds xs
  | .dict ds => ∃ kv, H a = some (.dK kv) ∧ DatKV K M H ds kv
  | _ => False
theorem Cont.some {K : PySem.W.Frag} {M : Msk} {H : Hp} {a : Addr} {d : D} (h : Cont K M H a d) : ∃ o, H a = some o := by
  cases d with
  | list ds => obtain ⟨_, e, _⟩ := h; exact ⟨_, e⟩
  | dict ds => obtain ⟨_, e, _⟩ := h; exact ⟨_, e⟩
  | none => exact h.elim
  | bool _ => exact h.elim
  | int _ => exact h.elim
  | str _ => exact h.elim
  | tuple _ => exact h.elim
theorem Cont.mv {K : PySem.W.Frag} {M M' : Msk} {H H' : Hp} {a : Addr} {d : D} (m : Mv M H M' H') (e : H' a = H a) (h : Cont K M H a d) : Cont K M' H' a d := by
  cases d with
  | list ds => obtain ⟨xs, q, r⟩ := h; exact ⟨xs, e.trans q, r.mv m⟩
  | dict ds => obtain ⟨xs, q, r⟩ := h; exact ⟨xs, e.trans q, r.mv m⟩
  | none => exact h.elim
  | bool _ => exact h.elim
  | int _ => exact h.elim
  | str _ => exact h.elim
  | tuple _ => exact h.elim
theorem Cont.dat {K : PySem.W.Frag} {M : Msk} {H : Hp} {a : Addr} {d : D} (n : ¬ M a) (h : Cont K M H a d) : Dat K M H d (.ref a) := by
  cases d with
  | list ds => obtain ⟨xs, q, r⟩ := h; simp only [Dat]; exact ⟨a, xs, rfl, .inl ⟨n, .inl q⟩, r⟩
  | dict ds => obtain ⟨xs, q, r⟩ := h; simp only [Dat]; exact ⟨a, xs, rfl, ⟨n, .inl q⟩, r⟩
  | none => exact h.elim
  | bool _ => exact h.elim
  | int _ => exact h.elim
  | str _ => exact h.elim
  | tuple _ => exact h.elim

def Owned (σ : St) (δ : DEnv) (a : Addr) : Prop := ∃ (i : Nat) (d : D), δ[i]? = some (some (Cell.own d)) ∧ σ[i]? = some (some (.ref a))
def Lent (σ : St) (δ : DEnv) (a : Addr) : Prop := ∃ (i : Nat) (d : D), δ[i]? = some (some (Cell.ref d)) ∧ σ[i]? = some (some (.ref a))
def msk (Mi : Msk) (σ : St) (δ : DEnv) : Msk := fun a => Mi a ∨ Owned σ δ a

/-- a field's data of an exception's own dict -/
def FldsR (K : PySem.W.Frag) (M : Msk) (H : Hp) : List (Str × D) → List (Str × V) → Prop
  | [], l => l = []
  | (f, d) :: r, l => ∃ v t, l = (f, v) :: t ∧ Dat K M H d v ∧ FldsR K M H r t
theorem FldsR.mv {K : PySem.W.Frag} {M M' : Msk} {H H' : Hp} (m : Mv M H M' H') : ∀ {fs : List (Str × D)} {l : List (Str × V)}, FldsR K M H fs l → FldsR K M' H' fs l
  | [], _, h => h
  | (f, d) :: r, _, h => by
    obtain ⟨v, t, e, h1, h2⟩ := h
    exact ⟨v, t, e, h1.mv m, FldsR.mv m h2⟩
/-- the exception's own dict -/
def ExcD (K : PySem.W.Frag) (M : Msk) (H : Hp) (dd : Option Addr) (x : Exn) : Prop :=
  x.fs = [] ∨ ∃ dx l, dd = some dx ∧ ¬ M dx ∧ H dx = some (.xd l) ∧ FldsR K M H x.fs l
theorem ExcD.mv {K : PySem.W.Frag} {M M' : Msk} {H H' : Hp} {dd : Option Addr} {x : Exn} (m : Mv M H M' H') (h : ExcD K M H dd x) : ExcD K M' H' dd x := by
  rcases h with h | ⟨dx, l, e, n, q, r⟩
  · exact .inl h
  · obtain ⟨n', q'⟩ := m _ _ n q
    exact .inr ⟨dx, l, e, n', q', r.mv m⟩

def CellR (K : PySem.W.Frag) (Mi M : Msk) (H : Hp) (v : V) : Cell → Prop
  | .val d => Dat K M H d v
  | .own d => ∃ a, v = .ref a ∧ ¬ Mi a ∧ Cont K M H a d
  | .ref d => ∃ a, v = .ref a ∧ Mi a ∧ Cont K M H a d
  | .exc a dd x => v = .ref a ∧ ExcD K M H dd x
def Cell.isMut : Cell → Bool
  | .own _ | .ref _ => true
  | _ => false

structure Rep (K : PySem.W.Frag) (Mi : Msk) (σ : St) (H : Hp) (δ : DEnv) : Prop where
  len : δ.length ≤ σ.length
  cell : ∀ (i : Nat) (c : Cell), δ[i]? = some (some c) → ∃ v, σ[i]? = some (some v) ∧ CellR K Mi (msk Mi σ δ) H v c
  sep : ∀ (i j : Nat) (c c' : Cell) (a : Addr), i ≠ j → δ[i]? = some (some c) → δ[j]? = some (some c') → c.isMut = true → c'.isMut = true → σ[i]? = some (some (.ref a)) → σ[j]? = some (some (.ref a)) → False
  dom : ∀ a, Mi a → H a ≠ none

/-- from one state of the frame to a later one; Mo: what is out of bounds afterwards -/
structure Go (K : PySem.W.Frag) (Mi Mo : Msk) (σ : St) (H : Hp) (δ : DEnv) (σ' : St) (H' : Hp) (δ' : DEnv) : Prop where
  rep : Rep K Mo σ' H' δ'
  stab : ∀ a o, ¬ Owned σ δ a → ¬ Lent σ δ a → H a = some o → H' a = some o
  own : ∀ a, Owned σ' δ' a → Owned σ δ a ∨ H a = none
  lent : ∀ (i : Nat), (∃ d, δ[i]? = some (some (Cell.ref d))) → σ'[i]? = σ[i]? ∧ ∃ d', δ'[i]? = some (some (Cell.ref d'))
  lentB : ∀ (i : Nat), (∃ d, δ'[i]? = some (some (Cell.ref d))) → ∃ d, δ[i]? = some (some (Cell.ref d))
  trk : ∀ a, H' a = none → H a = none

section
variable {K : PySem.W.Frag} {Mi Mo : Msk} {σ σ' σ2 : St} {H H' H2 : Hp} {δ δ' δ2 : DEnv}
theorem Rep.dom' (R : Rep K Mi σ H δ) {a : Addr} (h : msk Mi σ δ a) : H a ≠ none := by
  rcases h with h | ⟨i, d, e1, e2⟩
  · exact R.dom a h
  · obtain ⟨v, e3, b, rfl, _, c⟩ := R.cell i _ e1
    rw [e2] at e3
    cases e3
    obtain ⟨o, q⟩ := c.some
    rw [q]
    exact Option.some_ne_none _
theorem Rep.lent_in (R : Rep K Mi σ H δ) {a : Addr} (h : Lent σ δ a) : Mi a := by
  obtain ⟨i, d, e1, e2⟩ := h
  obtain ⟨v, e3, b, rfl, m, c⟩ := R.cell i _ e1
  rw [e2] at e3
  cases e3
  exact m
theorem Rep.own_out (R : Rep K Mi σ H δ) {a : Addr} (h : Owned σ δ a) : ¬ Mi a := by
  obtain ⟨i, d, e1, e2⟩ := h
  obtain ⟨v, e3, b, rfl, m, c⟩ := R.cell i _ e1
  rw [e2] at e3
  cases e3
  exact m
theorem Go.refl (R : Rep K Mi σ H δ) : Go K Mi Mi σ H δ σ H δ := ⟨R, fun _ _ _ _ e => e, fun _ h => .inl h, fun _ h => ⟨rfl, h⟩, fun _ h => h, fun _ h => h⟩
/-- what was readable is -/
theorem Go.mvW (R : Rep K Mi σ H δ) (g : Go K Mi Mo σ H δ σ' H' δ') (hm : ∀ a, Mo a → msk Mi σ δ a ∨ H a = none) : Mv (msk Mi σ δ) H (msk Mo σ' δ') H' := fun a o n e => by
  have n1 : ¬ Owned σ δ a := fun z => n (.inr z)
  have n2 : ¬ Lent σ δ a := fun z => n (.inl (R.lent_in z))
  refine ⟨fun z => ?_, g.stab a o n1 n2 e⟩
  rcases z with z | z
  · rcases hm a z with q | q
    · exact n q
    · rw [e] at q
      cases q
  · rcases g.own a z with q | q
    · exact n1 q
    · rw [e] at q
      cases q
theorem Go.mv (R : Rep K Mi σ H δ) (g : Go K Mi Mi σ H δ σ' H' δ') : Mv (msk Mi σ δ) H (msk Mi σ' δ') H' := g.mvW R fun _ h => .inl (.inl h)
theorem Lent.of (g : Go K Mi Mo σ H δ σ' H' δ') {a : Addr} (h : Lent σ' δ' a) : Lent σ δ a := by
  obtain ⟨i, d, e1, e2⟩ := h
  obtain ⟨d0, e0⟩ := g.lentB i ⟨d, e1⟩
  obtain ⟨q, _⟩ := g.lent i ⟨d0, e0⟩
  exact ⟨i, d0, e0, by rw [← q]; exact e2⟩
theorem Lent.to (g : Go K Mi Mo σ H δ σ' H' δ') {a : Addr} (h : Lent σ δ a) : Lent σ' δ' a := by
  obtain ⟨i, d, e1, e2⟩ := h
  obtain ⟨q, d', e'⟩ := g.lent i ⟨d, e1⟩
  exact ⟨i, d', e', by rw [q]; exact e2⟩
theorem Go.trans {Mo1 : Msk} (a : Go K Mi Mo1 σ H δ σ' H' δ') (b : Go K Mo1 Mo σ' H' δ' σ2 H2 δ2) : Go K Mi Mo σ H δ σ2 H2 δ2 where
  rep := b.rep
  stab := fun x o n1 n2 e => by
    have e1 := a.stab x o n1 n2 e
    refine b.stab x o (fun z => ?_) (fun z => n2 (Lent.of a z)) e1
    rcases a.own x z with q | q
    · exact n1 q
    · rw [e] at q
      cases q
  own := fun x h => by
    rcases b.own x h with q | q
    · exact a.own x q
    · exact .inr (a.trk x q)
  lent := fun i h => by
    obtain ⟨q, d', e'⟩ := a.lent i h
    obtain ⟨q2, r⟩ := b.lent i ⟨d', e'⟩
    exact ⟨q2.trans q, r⟩
  lentB := fun i h => a.lentB i (b.lentB i h)
  trk := fun x h => a.trk x (b.trk x h)
end
end Dl

set_option Elab.async false
set_option linter.all false
set_option maxRecDepth 100000
namespace Dl
open PySem PySem.Spec PyProof.Rows L2

/-! ### results of data-level functions -/
inductive R (α : Type) where
  | ok (a : α) (δ : DEnv)
  | err (x : Exn) (δ : DEnv)
  | bad
def R.bind {α β : Type} : R α → (α → DEnv → R β) → R β
  | .ok a δ, g => g a δ
  | .err x δ, _ => .err x δ
  | .bad, _ => .bad
def R.of {α : Type} (o : Option α) (δ : DEnv) : R α :=
  match o with
  | some a => .ok a δ
  | none => .bad
/-- a data-level function of the frame -/
abbrev Fe (α : Type) := DEnv → R α

/-- the class that a name means -/
def ClsOf (X : Cx) (n : Str) (c : Value) : Prop := X.mg n = some c ∨ (X.mg n = none ∧ bootBuiltins n = some c)
def ErrTo (X : Cx) (W : WX) (Mi : Msk) (σ : St) (H : Hp) (δ : DEnv) (x : Exn) (δ' : DEnv) : Prop :=
  ∀ cls dd σ' H', ClsOf X x.cls cls → Go X.K Mi Mi σ H δ σ' H' δ' → ExcD X.K (msk Mi σ' δ') H' dd x → W cls dd σ' H'

/-- what a result of type α says of a β -/
abbrev Rl (α β : Type) := Msk → α → St → DEnv → Hp → β → Prop
def RunG {α β : Type} (X : Cx) (W : WX) (P : Rl α β) (Mi : Msk) (σ : St) (H : Hp) (δ : DEnv) (r : R α) (Q : β → Hp → Prop) : Prop :=
  match r with
  | .ok a δ' => ∀ v H', Go X.K Mi Mi σ H δ σ H' δ' → P Mi a σ δ' H' v → Q v H'
  | .err x δ' => ErrTo X W Mi σ H δ x δ'
  | .bad => False
def tG {α β : Type} (X : Cx) (W : WX) (P : Rl α β) (F : Fe α) : St → Hp → (β → Hp → Prop) → Prop :=
  fun σ H Q => ∃ Mi δ, Rep X.K Mi σ H δ ∧ RunG X W P Mi σ H δ (F δ) Q

def pD (X : Cx) : Rl D V := fun Mi d σ δ H v => Dat X.K (msk Mi σ δ) H d v
def pA (X : Cx) : Rl (List D) (List V) := fun Mi ds σ δ H vs => DatAll X.K (msk Mi σ δ) H ds vs
def pB : Rl Bool Bool := fun _ b _ _ _ c => c = b
/-- an operand: a datum that lies ready, or a slot whose datum is looked at in place -/
inductive Opd where
  | tmp (d : D)
  | var (i : Nat)
def peek (δ : DEnv) (i : Nat) : Option D :=
  match δ[i]? with
  | some (some (.val d)) => some d
  | some (some (.own d)) => some d
  | some (some (.ref d)) => some d
  | _ => none
def opd (δ : DEnv) : Opd → Option D
  | .tmp d => some d
  | .var i => peek δ i
def pO (X : Cx) : Rl Opd V := fun Mi o σ δ H v =>
  match o with
  | .tmp d => Dat X.K (msk Mi σ δ) H d v
  | .var i => σ[i]? = some (some v)
/-- a datum that may be looked at -/
def Pk (K : PySem.W.Frag) (M : Msk) (H : Hp) (d : D) (v : V) : Prop := Dat K M H d v ∨ ∃ a, v = .ref a ∧ Cont K M H a d

/-- e is read as F -/
def DE (X : Cx) (W : WX) (e : Expr) (F : Fe D) : Prop := PE X e (tG X W (pD X) F)
def DP (X : Cx) (W : WX) (e : Expr) (F : Fe Opd) : Prop := PE X e (tG X W (pO X) F)
def DT (X : Cx) (W : WX) (e : Expr) (F : Fe Bool) : Prop := PT X e (tG X W pB F)
def DA (X : Cx) (W : WX) (es : List Expr) (F : Fe (List D)) : Prop := PA X es (tG X W (pA X) F)

section
variable {X : Cx} {W : WX}
theorem PE.imp {e : Expr} {t t' : TE} (h : PE X e t) (i : ∀ σ H Q, t' σ H Q → t σ H Q) : PE X e t' := ⟨fun pins s σ H Q I q => h.run pins s σ H Q I (i σ H Q q)⟩
theorem PT.imp {e : Expr} {t t' : TT} (h : PT X e t) (i : ∀ σ H Q, t' σ H Q → t σ H Q) : PT X e t' := ⟨fun pins s σ H Q I q => h.run pins s σ H Q I (i σ H Q q)⟩
theorem PA.imp {e : List Expr} {t t' : TA} (h : PA X e t) (i : ∀ σ H Q, t' σ H Q → t σ H Q) : PA X e t' := ⟨fun pos pins s σ H Q I q => h.run pos pins s σ H Q I (i σ H Q q)⟩
theorem PS.imp {e : Stmt} {t t' : TS} (h : PS X e t) (i : ∀ σ H Q, t' Q σ H → t Q σ H) : PS X e t' := ⟨fun pins s σ H Q I q => h.run pins s σ H Q I (i σ H Q q)⟩
theorem PSs.imp {e : List Stmt} {t t' : TS} (h : PSs X e t) (i : ∀ σ H Q, t' Q σ H → t Q σ H) : PSs X e t' := ⟨fun pins s σ H Q I q => h.run pins s σ H Q I (i σ H Q q)⟩

variable {α β γ ε : Type} {P : Rl α β} {P' : Rl γ ε} {Mi : Msk} {σ : St} {H H1 : Hp} {δ δ1 : DEnv}
theorem ErrTo.go {x : Exn} {δ' : DEnv} (g : Go X.K Mi Mi σ H δ σ H1 δ1) (h : ErrTo X W Mi σ H δ x δ') : ErrTo X W Mi σ H1 δ1 x δ' := fun cls dd σ' H' c g' e => h cls dd σ' H' c (g.trans g') e
theorem RunG.go {r : R α} {Q : β → Hp → Prop} (g : Go X.K Mi Mi σ H δ σ H1 δ1) (h : RunG X W P Mi σ H δ r Q) : RunG X W P Mi σ H1 δ1 r Q := by
  cases r with
  | ok a δ' => exact fun v H' g' p => h v H' (g.trans g') p
  | err x δ' => exact ErrTo.go g h
  | bad => exact h
theorem RunG.imp {r : R α} {Q Q' : β → Hp → Prop} (h : RunG X W P Mi σ H δ r Q) (q : ∀ v H', Q v H' → Q' v H') : RunG X W P Mi σ H δ r Q' := by
  cases r with
  | ok a δ' => exact fun v H' g' p => q v H' (h v H' g' p)
  | err x δ' => exact h
  | bad => exact h
theorem RunG.bind {r : R α} {G : α → DEnv → R γ} {Q : ε → Hp → Prop} (h : RunG X W P' Mi σ H δ (r.bind G) Q) :
    RunG X W P Mi σ H δ r fun v H1 => ∃ a δ1, Go X.K Mi Mi σ H δ σ H1 δ1 ∧ P Mi a σ δ1 H1 v ∧ RunG X W P' Mi σ H1 δ1 (G a δ1) Q := by
  cases r with
  | ok a δ' => exact fun v H' g' p => ⟨a, δ', g', p, RunG.go g' h⟩
  | err x δ' => exact h
  | bad => exact h
/-- the first of some steps -/
theorem tG_bind {F : Fe α} {G : α → DEnv → R γ} {Q : ε → Hp → Prop} (h : tG X W P' (fun δ => (F δ).bind G) σ H Q) :
    tG X W P F σ H fun v H1 => ∃ Mi a δ1, Rep X.K Mi σ H1 δ1 ∧ P Mi a σ δ1 H1 v ∧ RunG X W P' Mi σ H1 δ1 (G a δ1) Q := by
  obtain ⟨Mi, δ, R, h⟩ := h
  exact ⟨Mi, δ, R, h.bind.imp fun v H' ⟨a, δ1, g, p, r⟩ => ⟨Mi, a, δ1, g.rep, p, r⟩⟩
/-- what later steps leave as it is -/
def Stays {X : Cx} {α β : Type} (P : Rl α β) : Prop := ∀ Mi a σ δ H v H' δ', Rep X.K Mi σ H δ → Go X.K Mi Mi σ H δ σ H' δ' → P Mi a σ δ H v → P Mi a σ δ' H' v
theorem stays_D : Stays (X := X) (pD X) := fun Mi a σ δ H v H' δ' R g p => Dat.mv (g.mv R) p
theorem stays_A : Stays (X := X) (pA X) := fun Mi a σ δ H v H' δ' R g p => DatAll.mv (g.mv R) p
theorem stays_O : Stays (X := X) (pO X) := fun Mi a σ δ H v H' δ' R g p => by
  cases a with
  | tmp d => exact Dat.mv (g.mv R) p
  | var i => exact p
variable {ζ θ : Type} {P2 : Rl ζ θ}
/-- the first two of some steps -/
theorem tG_bind2 (st : Stays (X := X) P) {F : Fe α} {F2 : Fe ζ} {G : α → ζ → DEnv → R γ} {Q : ε → Hp → Prop} (h : tG X W P' (fun δ => (F δ).bind fun a δ1 => (F2 δ1).bind (G a)) σ H Q) :
    tG X W P F σ H fun v H1 => tG X W P2 F2 σ H1 fun u H2 => ∃ Mi a b δ2, Rep X.K Mi σ H2 δ2 ∧ P Mi a σ δ2 H2 v ∧ P2 Mi b σ δ2 H2 u ∧ RunG X W P' Mi σ H2 δ2 (G a b δ2) Q := by
  obtain ⟨Mi, δ, R, h⟩ := h
  refine ⟨Mi, δ, R, h.bind.imp fun v H1 ⟨a, δ1, g, p, r⟩ => ⟨Mi, δ1, g.rep, r.bind.imp fun u H2 ⟨b, δ2, g2, p2, r2⟩ => ⟨Mi, a, b, δ2, g2.rep, st _ _ _ _ _ _ _ _ g.rep g2 p, p2, r2⟩⟩⟩

/-! ### objects that are only added -/
def Al (H H' : Hp) : Prop := ∀ a o, H a = some o → H' a = some o
theorem Al.refl {H : Hp} : Al H H := fun _ _ e => e
theorem Al.trans {H H1 H2 : Hp} (a : Al H H1) (b : Al H1 H2) : Al H H2 := fun x o e => b x o (a x o e)
theorem Al.new {H : Hp} {p : Addr} {o : HO} (n : H p = none) : Al H (upd H p o) := fun a u e => by
  rw [upd_ne (ne_of_none e n)]
  exact e
theorem Al.mv {M : Msk} {H H' : Hp} (a : Al H H') : Mv M H M H' := fun x o n e => ⟨n, a x o e⟩
theorem Rep.al {K : PySem.W.Frag} {H' : Hp} (R : Rep K Mi σ H δ) (a : Al H H') : Rep K Mi σ H' δ where
  len := R.len
  cell := fun i c e => by
    obtain ⟨v, e1, r⟩ := R.cell i c e
    refine ⟨v, e1, ?_⟩
    cases c with
    | val d => exact Dat.mv a.mv r
    | own d =>
      obtain ⟨b, e2, n, q⟩ := r
      obtain ⟨o, eo⟩ := q.some
      exact ⟨b, e2, n, q.mv a.mv ((a b o eo).trans eo.symm)⟩
    | ref d =>
      obtain ⟨b, e2, n, q⟩ := r
      obtain ⟨o, eo⟩ := q.some
      exact ⟨b, e2, n, q.mv a.mv ((a b o eo).trans eo.symm)⟩
    | exc b dd x => exact ⟨r.1, r.2.mv a.mv⟩
  sep := R.sep
  dom := fun x hx => by
    cases e : H x with
    | none => exact absurd e (R.dom x hx)
    | some o =>
      rw [a x o e]
      exact Option.some_ne_none _
theorem Go.al {K : PySem.W.Frag} {H' : Hp} (R : Rep K Mi σ H δ) (a : Al H H') : Go K Mi Mi σ H δ σ H' δ := ⟨R.al a, fun x o _ _ e => a x o e, fun _ h => .inl h, fun _ h => ⟨rfl, h⟩, fun _ h => h, fun x h => by
  cases e : H x with
  | none => rfl
  | some o =>
    rw [a x o e] at h
    cases h⟩

/-! ### names, constants -/
def rdVar (i : Nat) : Fe D := fun δ =>
  match δ[i]? with
  | some (some (.val d)) => .ok d δ
  | some (some (.own d)) => .ok d (δ.set i (some (.val d)))
  | _ => .bad
def pkVar (i : Nat) : Fe Opd := fun δ =>
  match peek δ i with
  | some _ => .ok (.var i) δ
  | none => .bad
theorem set_get {l : DEnv} {i j : Nat} {c x : Option Cell} (h : (l.set i x)[j]? = some c) : (j = i ∧ c = x) ∨ (j ≠ i ∧ l[j]? = some c) := by
  by_cases e : i = j
  · subst e
    rw [List.getElem?_set] at h
    simp only [if_true] at h
    split at h
    · exact .inl ⟨rfl, (Option.some.inj h).symm⟩
    · cases h
  · rw [List.getElem?_set_ne e] at h
    exact .inr ⟨fun z => e z.symm, h⟩
/-- an owned container is given up: it may be shared -/
theorem Go.share {K : PySem.W.Frag} {i : Nat} {d : D} (R : Rep K Mi σ H δ) (e : δ[i]? = some (some (.own d))) :
    Go K Mi Mi σ H δ σ H (δ.set i (some (.val d))) ∧ ∀ v, σ[i]? = some (some v) → Dat K (msk Mi σ (δ.set i (some (.val d)))) H d v := by
  obtain ⟨v, ev, a, rfl, na, ct⟩ := R.cell i _ e
  have own_ : ∀ b, Owned σ (δ.set i (some (.val d))) b → Owned σ δ b ∧ b ≠ a := fun b ⟨j, d', e1, e2⟩ => by
    rcases set_get e1 with ⟨_, z⟩ | ⟨ne, z⟩
    · cases z
    · refine ⟨⟨j, d', z, e2⟩, fun q => ?_⟩
      subst q
      exact R.sep j i _ _ b ne z e rfl rfl e2 ev
  have mv : Mv (msk Mi σ δ) H (msk Mi σ (δ.set i (some (.val d)))) H := fun b o n q => ⟨fun z => n (z.elim .inl fun y => .inr (own_ b y).1), q⟩
  have na' : ¬ msk Mi σ (δ.set i (some (.val d))) a := fun z => z.elim na fun y => (own_ a y).2 rfl
  have dat : ∀ v, σ[i]? = some (some v) → Dat K (msk Mi σ (δ.set i (some (.val d)))) H d v := fun v q => by
    rw [ev] at q
    cases q
    exact (ct.mv mv rfl).dat na'
  refine ⟨⟨⟨by rw [List.length_set]; exact R.len, fun j c ec => ?_, fun j k c c' b ne e1 e2 m1 m2 s1 s2 => ?_, R.dom⟩, fun _ _ _ _ q => q, fun b h => .inl (own_ b h).1, fun j ⟨d', q⟩ => ?_, fun j ⟨d', q⟩ => ?_, fun _ h => h⟩, dat⟩
  · rcases set_get ec with ⟨rfl, z⟩ | ⟨ne, z⟩
    · cases z
      exact ⟨_, ev, dat _ ev⟩
    · obtain ⟨u, eu, r⟩ := R.cell j c z
      refine ⟨u, eu, ?_⟩
      cases c with
      | val d' => exact Dat.mv mv r
      | own d' =>
        obtain ⟨b, e2, n, q⟩ := r
        exact ⟨b, e2, n, q.mv mv rfl⟩
      | ref d' =>
        obtain ⟨b, e2, n, q⟩ := r
        exact ⟨b, e2, n, q.mv mv rfl⟩
      | exc b dd x => exact ⟨r.1, r.2.mv mv⟩
  · rcases set_get e1 with ⟨_, z⟩ | ⟨_, z1⟩
    · cases z
      cases m1
    · rcases set_get e2 with ⟨_, z⟩ | ⟨_, z2⟩
      · cases z
        cases m2
      · exact R.sep j k c c' b ne z1 z2 m1 m2 s1 s2
  · refine ⟨rfl, d', ?_⟩
    rw [List.getElem?_set_ne (fun z => by
      subst z
      rw [e] at q
      cases q)]
    exact q
  · rcases set_get q with ⟨_, z⟩ | ⟨_, z⟩
    · cases z
    · exact ⟨d', z⟩
theorem de_var {i : Nat} {x : Str} {pos : Pos} (hN : X.N[i]? = some x) (hv : Vis X.env.scope x) (hd : (x == ("__debug__" : Str)) = false := by decide +kernel) (hcd : (x == ("__classdict__" : Str)) = false := by decide +kernel) : DE X W (.Name x pos) (rdVar i) := by
  refine PE.imp (pe_var hN hv hd hcd) fun σ H Q h => ?_
  obtain ⟨Mi, δ, R, h⟩ := h
  unfold rdVar at h
  split at h
  · rename_i d e
    obtain ⟨v, ev, r⟩ := R.cell i _ e
    exact ⟨v, ev, h v H (Go.refl R) r⟩
  · rename_i d e
    obtain ⟨v, ev, _⟩ := R.cell i _ e
    obtain ⟨g, q⟩ := Go.share R e
    exact ⟨v, ev, h v H g (q v ev)⟩
  · exact h.elim
theorem dp_var {i : Nat} {x : Str} {pos : Pos} (hN : X.N[i]? = some x) (hv : Vis X.env.scope x) (hd : (x == ("__debug__" : Str)) = false := by decide +kernel) (hcd : (x == ("__classdict__" : Str)) = false := by decide +kernel) : DP X W (.Name x pos) (pkVar i) := by
  refine PE.imp (pe_var hN hv hd hcd) fun σ H Q h => ?_
  obtain ⟨Mi, δ, R, h⟩ := h
  unfold pkVar at h
  split at h
  · rename_i d e
    unfold peek at e
    have hv : ∃ v, σ[i]? = some (some v) := by
      split at e
      · rename_i _ q
        obtain ⟨v, ev, _⟩ := R.cell i _ q
        exact ⟨v, ev⟩
      · rename_i _ q
        obtain ⟨v, ev, _⟩ := R.cell i _ q
        exact ⟨v, ev⟩
      · rename_i _ q
        obtain ⟨v, ev, _⟩ := R.cell i _ q
        exact ⟨v, ev⟩
      · cases e
    obtain ⟨v, ev⟩ := hv
    exact ⟨v, ev, h v H (Go.refl R) ev⟩
  · exact h.elim
theorem dp_of {e : Expr} {F : Fe D} (h : DE X W e F) : DP X W e fun δ => (F δ).bind fun d δ' => .ok (.tmp d) δ' := by
  refine PE.imp h fun σ H Q q => ?_
  obtain ⟨Mi, δ, R, q⟩ := q
  refine ⟨Mi, δ, R, ?_⟩
  dsimp only at q
  cases e : F δ with
  | ok a δ' =>
    rw [e] at q
    exact fun v H' g p => q v H' g p
  | err x δ' =>
    rw [e] at q
    exact q
  | bad =>
    rw [e] at q
    exact q
/-- an operand's datum -/
theorem opd_pk {K : PySem.W.Frag} {o : Opd} {d : D} {v : V} (hK : K = X.K) (R : Rep X.K Mi σ H δ) (p : pO X Mi o σ δ H v) (e : opd δ o = some d) : Pk X.K (msk Mi σ δ) H d v := by
  cases o with
  | tmp d' =>
    cases e
    exact .inl p
  | var i =>
    have e' : peek δ i = some d := e
    unfold peek at e'
    split at e'
    · rename_i _ q
      cases e'
      obtain ⟨u, eu, r⟩ := R.cell i _ q
      have p' : σ[i]? = some (some v) := p
      rw [eu] at p'
      cases p'
      exact .inl r
    · rename_i _ q
      cases e'
      obtain ⟨u, eu, a, rfl, _, r⟩ := R.cell i _ q
      have p' : σ[i]? = some (some v) := p
      rw [eu] at p'
      cases p'
      exact .inr ⟨a, rfl, r⟩
    · rename_i _ q
      cases e'
      obtain ⟨u, eu, a, rfl, _, r⟩ := R.cell i _ q
      have p' : σ[i]? = some (some v) := p
      rw [eu] at p'
      cases p'
      exact .inr ⟨a, rfl, r⟩
    · cases e'
def fC (d : D) : Fe D := fun δ => .ok d δ
theorem tG_pure {d : D} {v : V} {Q : VK} (hd : ∀ M H, Dat X.K M H d v) (h : tG X W (pD X) (fC d) σ H Q) : Q v H := by
  obtain ⟨Mi, δ, R, h⟩ := h
  exact h v H (Go.refl R) (hd _ _)
theorem de_int {i : Int} {j pos} : DE X W (.Constant (.int i) j pos) (fC (.int i)) := PE.imp pe_int fun σ H Q h => tG_pure (fun _ _ => by simp only [Dat]) h
theorem de_bl {b : Bool} {j pos} : DE X W (.Constant (.bool b) j pos) (fC (.bool b)) := PE.imp pe_bl fun σ H Q h => tG_pure (fun _ _ => by simp only [Dat]) h
theorem de_non {j pos} : DE X W (.Constant .none j pos) (fC .none) := PE.imp pe_non fun σ H Q h => tG_pure (fun _ _ => by simp only [Dat]) h
theorem de_str {x : Str} {j pos} : DE X W (.Constant (.str x) j pos) (fC (.str x)) := PE.imp pe_str fun σ H Q h => tG_pure (fun _ _ => by simp only [Dat]) h
/-- a module's constant -/
theorem de_glob {x : Str} {d : D} {v : V} {u : Value} {pos : Pos} (hg : Gl X x) (hm : X.mg x = some u) (r : RelV v u) (hd : ∀ M H, Dat X.K M H d v) (hdb : (x == ("__debug__" : Str)) = false := by decide +kernel) : DE X W (.Name x pos) (fC d) :=
  PE.imp (pe_glob hg hm r hdb) fun σ H Q h => tG_pure hd h
theorem Dat.kTup {K : PySem.W.Frag} {a : Addr} {xs : List V} {ds : List D} (h : ∀ G, SqT K G a xs) (r : ∀ M H, DatAll K M H ds xs) : ∀ M H, Dat K M H (.tuple ds) (.ref a) := fun M H => by
  simp only [Dat]
  exact ⟨a, xs, rfl, .inr h, r M H⟩

/-! ### argument lists, displays -/
def fNil : Fe (List D) := fun δ => .ok [] δ
def fCons (F : Fe D) (G : Fe (List D)) : Fe (List D) := fun δ => (F δ).bind fun d δ1 => (G δ1).bind fun ds δ2 => .ok (d :: ds) δ2
theorem da_nil : DA X W [] fNil := PA.imp pa_nil fun σ H Q ⟨Mi, δ, R, h⟩ => h [] H (Go.refl R) .nil
theorem da_cons {e : Expr} {es : List Expr} {F : Fe D} {G : Fe (List D)} (h : DE X W e F) (t : DA X W es G) (hs : starEach (e :: es) X.env = (false, eval e X.env) :: starEach es X.env := by rfl) : DA X W (e :: es) (fCons F G) := by
  refine PA.imp (pa_cons h t hs) fun σ H Q q => ?_
  have q' := tG_bind2 (P := pD X) (P2 := pA X) (F2 := G) stays_D q
  obtain ⟨Mi, δ, R, q'⟩ := q'
  refine ⟨Mi, δ, R, q'.imp fun v H1 q1 => ?_⟩
  obtain ⟨Mi, δ, R, q1⟩ := q1
  refine ⟨Mi, δ, R, q1.imp fun u H2 ⟨Mi, a, b, δ2, R2, p1, p2, r⟩ => r (v :: u) H2 (Go.refl R2) (.cons p1 p2)⟩
def okLen (ds : List D) (d : D) : Option D := if ds.length ≤ 1000000 then some d else none
def fTup (F : Fe (List D)) : Fe D := fun δ => (F δ).bind fun ds δ1 => R.of (okLen ds (.tuple ds)) δ1
theorem of_okLen {ds : List D} {d : D} {δ : DEnv} {Q : VK} (h : RunG X W (pD X) Mi σ H δ (R.of (okLen ds d) δ) Q) : ds.length ≤ 1000000 ∧ RunG X W (pD X) Mi σ H δ (.ok d δ) Q := by
  unfold okLen at h
  split at h
  · rename_i hl
    exact ⟨hl, h⟩
  · exact h.elim
theorem lenLine {n : Nat} (h : n ≤ 1000000) : n ≤ sizeLine := by
  rw [sizeLine_eq]
  omega
theorem de_tup {es : List Expr} {F : Fe (List D)} {x1 pos} (h : DA X W es F) : DE X W (.Tuple es x1 pos) (fTup F) := by
  refine PE.imp (pe_tup h) fun σ H Q q => ?_
  obtain ⟨Mi, δ, R, q⟩ := tG_bind (P := pA X) q
  refine ⟨Mi, δ, R, q.imp fun vs H1 ⟨Mi, ds, δ1, R1, p, r⟩ => ?_⟩
  obtain ⟨hl, r⟩ := of_okLen r
  have p' : DatAll X.K (msk Mi σ δ1) H1 ds vs := p
  refine ⟨lenLine (by rw [p'.length]; exact hl), fun b nb => r _ _ (Go.al R1 (Al.new nb)) ?_⟩
  show Dat _ _ _ (.tuple ds) _
  simp only [Dat]
  exact ⟨b, vs, rfl, .inl ⟨fun z => R1.dom' z nb, .inl upd_same⟩, p'.mv (Al.new nb).mv⟩
/-- a new list, shared from the start -/
def fLst (F : Fe (List D)) : Fe D := fun δ => (F δ).bind fun ds δ1 => R.of (okLen ds (.list ds)) δ1
theorem de_lst {es : List Expr} {F : Fe (List D)} {pos} (h : DA X W es F) : DE X W (.List es pos) (fLst F) := by
  refine PE.imp (pe_lst h) fun σ H Q q => ?_
  obtain ⟨Mi, δ, R, q⟩ := tG_bind (P := pA X) q
  refine ⟨Mi, δ, R, q.imp fun vs H1 ⟨Mi, ds, δ1, R1, p, r⟩ => ?_⟩
  obtain ⟨hl, r⟩ := of_okLen r
  have p' : DatAll X.K (msk Mi σ δ1) H1 ds vs := p
  refine ⟨lenLine (by rw [p'.length]; exact hl), fun b nb => r _ _ (Go.al R1 (Al.new nb)) ?_⟩
  show Dat _ _ _ (.list ds) _
  simp only [Dat]
  exact ⟨b, vs, rfl, .inl ⟨fun z => R1.dom' z nb, .inl upd_same⟩, p'.mv (Al.new nb).mv⟩

/-! ### operations of two operands, given by what they do with data -/
/-- r, at any values that stand for da, db, tells what stands for f da db -/
def OpD (K : PySem.W.Frag) (r : R2) (f : D → D → Option D) : Prop :=
  ∀ (M : Msk) (H : Hp) (x y : V) (da db d : D) (Q : VK), (∀ a, M a → H a ≠ none) → Pk K M H da x → Pk K M H db y → f da db = some d → (∀ v H', Al H H' → Dat K M H' d v → Q v H') → r x y H Q
def fBin (f : D → D → Option D) (F G : Fe Opd) : Fe D := fun δ => (F δ).bind fun a δ1 => (G δ1).bind fun b δ2 => R.of ((opd δ2 a).bind fun da => (opd δ2 b).bind fun db => f da db) δ2
theorem of_bin {f : D → D → Option D} {a b : Opd} {x y : V} {Q : VK} {r : R2} (o : OpD X.K r f) (R : Rep X.K Mi σ H δ) (p1 : pO X Mi a σ δ H x) (p2 : pO X Mi b σ δ H y)
    (h : RunG X W (pD X) Mi σ H δ (Dl.R.of ((opd δ a).bind fun da => (opd δ b).bind fun db => f da db) δ) Q) : r x y H Q := by
  cases ea : opd δ a with
  | none =>
    rw [ea] at h
    exact h.elim
  | some da =>
    cases eb : opd δ b with
    | none =>
      rw [ea, eb] at h
      exact h.elim
    | some db =>
      rw [ea, eb] at h
      cases e : f da db with
      | none =>
        have h' : RunG X W (pD X) Mi σ H δ (Dl.R.of (f da db) δ) Q := h
        rw [e] at h'
        exact h'.elim
      | some d =>
        have h' : RunG X W (pD X) Mi σ H δ (Dl.R.of (f da db) δ) Q := h
        rw [e] at h'
        exact o _ H x y da db d Q (fun a z => R.dom' z) (opd_pk rfl R p1 ea) (opd_pk rfl R p2 eb) e fun v H' al dv => h' v H' (Go.al R al) dv
theorem bin_rd {f : D → D → Option D} {F G : Fe Opd} {r : R2} {Q : VK} (o : OpD X.K r f) (q : tG X W (pD X) (fBin f F G) σ H Q) :
    tG X W (pO X) F σ H fun x H1 => tG X W (pO X) G σ H1 fun y H2 => r x y H2 Q := by
  obtain ⟨Mi, δ, R, q⟩ := tG_bind2 (P := pO X) (P2 := pO X) (F2 := G) stays_O q
  refine ⟨Mi, δ, R, q.imp fun v H1 q1 => ?_⟩
  obtain ⟨Mi, δ, R, q1⟩ := q1
  exact ⟨Mi, δ, R, q1.imp fun u H2 ⟨Mi, a, b, δ2, R2, p1, p2, r⟩ => of_bin o R2 p1 p2 r⟩
theorem de_op {op : Operator} {r : R2} {f : D → D → Option D} {a b : Expr} {F G : Fe Opd} {pos} (ho : OpR X (binaryOp op) r) (o : OpD X.K r f) (ha : DP X W a F) (hb : DP X W b G) : DE X W (.BinOp a op b pos) (fBin f F G) :=
  PE.imp (pe_op ho ha hb) fun _ _ _ q => bin_rd o q
theorem de_cmp {op : CmpOp} {r : R2} {f : D → D → Option D} {a b : Expr} {F G : Fe Opd} {pos} (ho : OpR X (compareOp op) r) (o : OpD X.K r f) (ha : DP X W a F) (hb : DP X W b G) (hm : behindInMarks op b = false) : DE X W (.Compare a [op] [b] pos) (fBin f F G) :=
  PE.imp (pe_cmpR ho ha hb hm) fun _ _ _ q => bin_rd o q
theorem de_ix {r : R2} {f : D → D → Option D} {a b : Expr} {F G : Fe Opd} {pos} (ho : IxR X r) (o : OpD X.K r f) (ha : DP X W a F) (hb : DP X W b G) (hs : PlainIx b) : DE X W (.Subscript a b pos) (fBin f F G) :=
  PE.imp (pe_ix ho ha hb hs) fun _ _ _ q => bin_rd o q
end
end Dl

set_option Elab.async false
set_option linter.all false
set_option maxRecDepth 100000
namespace Dl
open PySem PySem.Spec PyProof.Rows L2

/-- what the frame's run may count on -/
structure Ok (X : Cx) (k : Nat) : Prop where
  room : Room k X.A
  gd : X.A.guards = some []
theorem Ok.hu {X : Cx} {k : Nat} (o : Ok X k) : X.A.units + 64 < cLine := o.room.units
theorem Ok.mono {X : Cx} {j k : Nat} (o : Ok X k) (h : j ≤ k) : Ok X j := ⟨o.room.mono h, o.gd⟩

/-- an operation by what it does with data -/
def rD (K : PySem.W.Frag) (f : D → D → Option D) : R2 := fun x y H Q =>
  ∃ (M : Msk) (da db d : D), (∀ a, M a → H a ≠ none) ∧ Pk K M H da x ∧ Pk K M H db y ∧ f da db = some d ∧ ∀ v H', Al H H' → Dat K M H' d v → Q v H'
theorem opD_rD {K : PySem.W.Frag} {f : D → D → Option D} : OpD K (rD K f) f := fun M H x y da db d Q hm px py e q => ⟨M, da, db, d, hm, px, py, e, q⟩

section
variable {K : PySem.W.Frag} {M : Msk} {H : Hp} {v : V}
theorem Pk.int {i : Int} (h : Pk K M H (.int i) v) : v = .int i := by
  rcases h with h | ⟨a, _, h⟩
  · simpa only [Dat] using h
  · exact h.elim
theorem Pk.str {i : Str} (h : Pk K M H (.str i) v) : v = .str i := by
  rcases h with h | ⟨a, _, h⟩
  · simpa only [Dat] using h
  · exact h.elim
theorem Pk.bool {i : Bool} (h : Pk K M H (.bool i) v) : v = .bl i := by
  rcases h with h | ⟨a, _, h⟩
  · simpa only [Dat] using h
  · exact h.elim
theorem Pk.none (h : Pk K M H .none v) : v = .non := by
  rcases h with h | ⟨a, _, h⟩
  · simpa only [Dat] using h
  · exact h.elim
theorem Pk.list {ds : List D} (h : Pk K M H (.list ds) v) : ∃ a xs, v = .ref a ∧ LsR K H a xs ∧ DatAll K M H ds xs := by
  rcases h with h | ⟨a, e, xs, h1, h2⟩
  · simp only [Dat] at h
    obtain ⟨a, xs, e, l, r⟩ := h
    exact ⟨a, xs, e, l.ls, r⟩
  · exact ⟨a, xs, e, .inl (.inl h1), h2⟩
theorem Pk.tuple {ds : List D} (h : Pk K M H (.tuple ds) v) : ∃ a xs, v = .ref a ∧ TupAt K M H a xs ∧ DatAll K M H ds xs := by
  rcases h with h | ⟨a, e, h⟩
  · simpa only [Dat] using h
  · exact h.elim
theorem Pk.dict {ds : List (D × D)} (h : Pk K M H (.dict ds) v) : ∃ a kv, v = .ref a ∧ Rd H a (.dK kv) ∧ DatKV K M H ds kv := by
  rcases h with h | ⟨a, e, xs, h1, h2⟩
  · simp only [Dat] at h
    obtain ⟨a, xs, e, l, r⟩ := h
    exact ⟨a, xs, e, l.2, r⟩
  · exact ⟨a, xs, e, .inl h1, h2⟩
theorem Dat.mkInt {i : Int} : Dat K M H (.int i) (.int i) := by simp only [Dat]
theorem Dat.mkStr {i : Str} : Dat K M H (.str i) (.str i) := by simp only [Dat]
theorem Dat.mkBool {i : Bool} : Dat K M H (.bool i) (.bl i) := by simp only [Dat]
theorem Dat.mkNone : Dat K M H .none .non := by simp only [Dat]
theorem Dat.mkTup {a : Addr} {xs : List V} {ds : List D} (l : TupAt K M H a xs) (r : DatAll K M H ds xs) : Dat K M H (.tuple ds) (.ref a) := by
  simp only [Dat]
  exact ⟨a, xs, rfl, l, r⟩
/-- a new tuple, a new list -/
theorem Dat.newTup {p : Addr} {xs : List V} {ds : List D} (hm : ∀ a, M a → H a ≠ .none) (n : H p = .none) (r : DatAll K M H ds xs) : Dat K M (upd H p (.tup xs)) (.tuple ds) (.ref p) := by
  simp only [Dat]
  exact ⟨p, xs, rfl, .inl ⟨fun z => hm p z n, .inl upd_same⟩, r.mv (Al.new n).mv⟩
theorem Dat.newLst {p : Addr} {xs : List V} {ds : List D} (hm : ∀ a, M a → H a ≠ .none) (n : H p = .none) (r : DatAll K M H ds xs) : Dat K M (upd H p (.lst xs)) (.list ds) (.ref p) := by
  simp only [Dat]
  exact ⟨p, xs, rfl, .inl ⟨fun z => hm p z n, .inl upd_same⟩, r.mv (Al.new n).mv⟩
mutual
/-- a datum without dicts, in the layer's own words -/
theorem Dat.dp : ∀ {d : D} {v : V}, d.plain = true → Dat K M H d v → Dp K H v d
  | .none, _, _, h => by
    simp only [Dat] at h
    subst h
    exact .non
  | .bool b, _, _, h => by
    simp only [Dat] at h
    subst h
    exact .bl b
  | .int b, _, _, h => by
    simp only [Dat] at h
    subst h
    exact .int b
  | .str b, _, _, h => by
    simp only [Dat] at h
    subst h
    exact .str b
  | .list ds, _, p, h => by
    simp only [Dat] at h
    obtain ⟨a, xs, rfl, l, r⟩ := h
    exact .lst l.sq (DatAll.dp (by simpa only [PyData.plain] using p) r)
  | .tuple ds, _, p, h => by
    simp only [Dat] at h
    obtain ⟨a, xs, rfl, l, r⟩ := h
    exact .tup l.sq (DatAll.dp (by simpa only [PyData.plain] using p) r)
  | .dict _, _, p, _ => by
    simp only [PyData.plain] at p
    cases p
theorem DatAll.dp : ∀ {ds : List D} {vs : List V}, PyData.plainAll ds = true → DatAll K M H ds vs → DpAll K H vs ds
  | [], _, _, h => by
    rw [h.nil_inv]
    exact .nil
  | d :: ds, _, p, h => by
    obtain ⟨v, r, rfl, h1, h2⟩ := h.cons_inv
    simp only [PyData.plainAll, Bool.and_eq_true] at p
    exact .cons (Dat.dp p.1 h1) (DatAll.dp p.2 h2)
end
theorem Pk.dp {d : D} (p : d.plain = true) (h : Pk K M H d v) : Dp K H v d := by
  rcases h with h | ⟨a, rfl, h⟩
  · exact h.dp p
  · cases d with
    | list ds =>
      obtain ⟨xs, e, r⟩ := h
      exact .lst (.inl (.inl e)) (r.dp (by simpa only [PyData.plain] using p))
    | dict ds =>
      simp only [PyData.plain] at p
      cases p
    | none => exact h.elim
    | bool _ => exact h.elim
    | int _ => exact h.elim
    | str _ => exact h.elim
    | tuple _ => exact h.elim
end
section
variable {X : Cx}
theorem Pk.reads {M : Msk} {pins : List (Addr × Obj)} {σ : St} {H : Hp} {s : Shared} {d : D} {v : V} {u : Value} (I : Inv X pins σ H s) (p : d.plain = true) (h : Pk X.K M H d v) (r : RelV v u) : ∃ as, Reads s.heap u d as :=
  Dp.reads I d v u (h.dp p) r

/-! ### arithmetic -/
def addF : D → D → Option D
  | .int a, .int b => some (.int (a + b))
  | .str a, .str b => if a.length + b.length ≤ 1000000 then some (.str (a ++ b)) else none
  | .list a, .list b => if a.length + b.length ≤ 1000000 then some (.list (a ++ b)) else none
  | .tuple a, .tuple b => if a.length + b.length ≤ 1000000 then some (.tuple (a ++ b)) else none
  | _, _ => none
theorem rd_list {pins : List (Addr × Obj)} {s : Shared} {σ : St} {H : Hp} {l : Addr} {xs : List V} (I : Inv X pins σ H s) (hH : LsR X.K H l xs) :
    xs.length ≤ sizeLine ∧ ∃ (its : List Value) (n : Nat), Vals xs its ∧ xs.length = its.length ∧ s.heap.get? l = some { cls := .type "list", data := .seq its.toArray n } := by
  rcases hH with hH | ⟨its, n, e, z, r⟩
  · obtain ⟨z, its, n, r, e⟩ := hH.ok I.hok
    exact ⟨z, its, n, r, r.length, e⟩
  · exact ⟨z, its, n, r, r.length, I.kIn l _ e⟩
theorem op_catL {pins : List (Addr × Obj)} {s : Shared} {σ : St} {H : Hp} {l b : Addr} {xs zs : List V} {Q : VK} (I : Inv X pins σ H s) (hH : LsR X.K H l xs) (hB : LsR X.K H b zs) (hz : xs.length + zs.length ≤ sizeLine)
    (q : ∀ p, H p = none → Q (.ref p) (upd H p (.lst (xs ++ zs)))) : wpAny (model X.prog X.w) X.A (binaryOp .Add (.ref l) (.ref b)) (EP X pins σ Q) X.xe s := by
  obtain ⟨z, its, n, r, hl, e⟩ := rd_list I hH
  obtain ⟨z2, its2, n2, r2, hl2, e2⟩ := rd_list I hB
  refine PySem.P.add_list e e2 ?_ (by rw [List.size_toArray, List.size_toArray]; omega)
  rw [show its.toArray ++ its2.toArray = (its ++ its2).toArray by simp]
  exact ⟨.ref _, _, I.lnew (t' := s.toks) (r.append r2) (by rw [List.length_append]; omega), rfl, q _ I.fresh⟩
theorem some_if {α : Type} {c : Prop} [Decidable c] {x d : α} (h : (if c then some x else none) = some d) : c ∧ x = d := by
  split at h
  · rename_i hc
    exact ⟨hc, Option.some.inj h⟩
  · cases h
theorem op_addD : OpR X (binaryOp .Add) (rD X.K addF) := by
  intro pins s σ H x y v u Q I rx ry ⟨M, da, db, d, hm, px, py, e, q⟩
  unfold addF at e
  split at e
  · cases e
    exact op_add pins s σ H x y v u Q I rx ry ⟨_, _, px.int, py.int, q _ H Al.refl .mkInt⟩
  · obtain ⟨hl, e⟩ := some_if e
    subst e
    exact op_add_str pins s σ H x y v u Q I rx ry ⟨_, _, px.str, py.str, lenLine hl, q _ H Al.refl .mkStr⟩
  · obtain ⟨hl, e⟩ := some_if e
    subst e
    obtain ⟨a, xs, rfl, l, r⟩ := px.list
    obtain ⟨b, ys, rfl, l2, r2⟩ := py.list
    cases rx
    cases ry
    refine op_catL I l l2 (by rw [r.length, r2.length]; exact lenLine hl) fun p n => q _ _ (Al.new n) (.newLst hm n (r.append r2))
  · obtain ⟨hl, e⟩ := some_if e
    subst e
    obtain ⟨a, xs, rfl, l, r⟩ := px.tuple
    obtain ⟨b, ys, rfl, l2, r2⟩ := py.tuple
    have c := r.append r2
    refine op_catA pins s σ H _ _ v u Q I rx ry ⟨a, b, xs, ys, rfl, rfl, l.sq, l2.sq, by rw [r.length, r2.length]; exact lenLine hl, fun e => ?_, fun _ e => ?_, fun _ _ p n => q _ _ (Al.new n) (.newTup hm n c)⟩
    · refine q _ H Al.refl (.mkTup l2 ?_)
      rw [e] at c
      exact c
    · refine q _ H Al.refl (.mkTup l ?_)
      rw [e, List.append_nil] at c
      exact c
  · cases e
def subF : D → D → Option D
  | .int a, .int b => some (.int (a - b))
  | _, _ => none
theorem op_subD : OpR X (binaryOp .Sub) (rD X.K subF) := by
  intro pins s σ H x y v u Q I rx ry ⟨M, da, db, d, hm, px, py, e, q⟩
  unfold subF at e
  split at e
  · cases e
    exact op_sub pins s σ H x y v u Q I rx ry ⟨_, _, px.int, py.int, q _ H Al.refl .mkInt⟩
  · cases e
/-- numbers of together less than a million bits -/
def mulF : D → D → Option D
  | .int a, .int b => if ((-(2 ^ 64) < a ∧ a < 2 ^ 64) ∨ (-(2 ^ 64) < b ∧ b < 2 ^ 64)) ∨ a.natAbs.log2 + b.natAbs.log2 < 1000000 then some (.int (a * b)) else none
  | _, _ => none
theorem op_mulD : OpR X (binaryOp .Mult) (rD X.K mulF) := by
  intro pins s σ H x y v u Q I rx ry ⟨M, da, db, d, hm, px, py, e, q⟩
  unfold mulF at e
  split at e
  · obtain ⟨hl, e⟩ := some_if e
    subst e
    rcases hl with hl | hl
    · exact op_mul pins s σ H x y v u Q I rx ry ⟨_, _, px.int, py.int, hl, q _ H Al.refl .mkInt⟩
    · exact op_mulW pins s σ H x y v u Q I rx ry ⟨_, _, px.int, py.int, hl, q _ H Al.refl .mkInt⟩
  · cases e
def divF : D → D → Option D
  | .int a, .int b => if 0 < b ∧ b.natAbs.log2 < 9000 then some (.int (a / b)) else none
  | _, _ => none
theorem op_divD : OpR X (binaryOp .FloorDiv) (rD X.K divF) := by
  intro pins s σ H x y v u Q I rx ry ⟨M, da, db, d, hm, px, py, e, q⟩
  unfold divF at e
  split at e
  · obtain ⟨hl, e⟩ := some_if e
    subst e
    exact op_fdivW pins s σ H x y v u Q I rx ry ⟨_, _, px.int, py.int, hl, q _ H Al.refl .mkInt⟩
  · cases e
def modF : D → D → Option D
  | .int a, .int b => if 0 < b then some (.int (a % b)) else none
  | _, _ => none
theorem op_modD : OpR X (binaryOp .Mod) (rD X.K modF) := by
  intro pins s σ H x y v u Q I rx ry ⟨M, da, db, d, hm, px, py, e, q⟩
  unfold modF at e
  split at e
  · obtain ⟨hl, e⟩ := some_if e
    subst e
    exact op_mod pins s σ H x y v u Q I rx ry ⟨_, _, px.int, py.int, hl, q _ H Al.refl .mkInt⟩
  · cases e
def powF : D → D → Option D
  | .int a, .int b => if 0 ≤ b ∧ b ≤ 1000 ∧ a.natAbs < 2 ^ 64 then some (.int (a ^ b.toNat)) else none
  | _, _ => none
theorem op_powD : OpR X (binaryOp .Pow) (rD X.K powF) := by
  intro pins s σ H x y v u Q I rx ry ⟨M, da, db, d, hm, px, py, e, q⟩
  unfold powF at e
  split at e
  · obtain ⟨hl, e⟩ := some_if e
    subst e
    exact op_pow pins s σ H x y v u Q I rx ry ⟨_, _, px.int, py.int, ⟨hl.1, Int.le_trans hl.2.1 (by decide), hl.2.2⟩, q _ H Al.refl .mkInt⟩
  · cases e

/-! ### comparisons -/
def okEq (a b : D) : Bool := a.plain && b.plain && decide (min a.depth b.depth ≤ 60)
def eqF (a b : D) : Option D := if okEq a b = true then some (.bool (PyData.eqv a b)) else none
def neF (a b : D) : Option D := if okEq a b = true then some (.bool (!PyData.eqv a b)) else none
theorem okEq_un {a b : D} (h : okEq a b = true) : a.plain = true ∧ b.plain = true ∧ min a.depth b.depth ≤ 60 := by
  unfold okEq at h
  simp only [Bool.and_eq_true, decide_eq_true_eq] at h
  exact ⟨h.1.1, h.1.2, h.2⟩
theorem op_eqA (hu : X.A.units + 64 < cLine) : OpR X (compareOp .Eq) (rD X.K eqF) := by
  intro pins s σ H x y v u Q I rx ry ⟨M, da, db, d, hm, px, py, e, q⟩
  obtain ⟨hl, e⟩ := some_if e
  subst e
  obtain ⟨pa, pb, hd⟩ := okEq_un hl
  obtain ⟨as, r1⟩ := px.reads I pa rx
  obtain ⟨bs, r2⟩ := py.reads I pb ry
  exact PySem.SeqAt.eq_plain r1 r2 pa pb (by omega) ⟨.bl _, H, I, rfl, q _ H Al.refl .mkBool⟩
theorem op_neA (hu : X.A.units + 64 < cLine) : OpR X (compareOp .NotEq) (rD X.K neF) := by
  intro pins s σ H x y v u Q I rx ry ⟨M, da, db, d, hm, px, py, e, q⟩
  obtain ⟨hl, e⟩ := some_if e
  subst e
  obtain ⟨pa, pb, hd⟩ := okEq_un hl
  obtain ⟨as, r1⟩ := px.reads I pa rx
  obtain ⟨bs, r2⟩ := py.reads I pb ry
  exact PySem.SeqAt.ne_plain r1 r2 pa pb (by omega) ⟨.bl _, H, I, rfl, q _ H Al.refl .mkBool⟩
theorem plain_of_alike : ∀ (a b : D), PySem.W.alike a b = true → a.depth ≤ 60 → a.plain = true → b.plain = true → a.plain = true ∧ b.plain = true := fun _ _ _ _ h1 h2 => ⟨h1, h2⟩
/-- two data that can be compared place by place -/
def okLt (a b : D) : Bool := a.plain && b.plain && PySem.W.alike a b && decide (min a.depth b.depth ≤ 60) && (match a with | .none => false | _ => true)
theorem okLt_un {a b : D} (h : okLt a b = true) : a.plain = true ∧ b.plain = true ∧ PySem.W.alike a b = true ∧ min a.depth b.depth ≤ 60 ∧ a ≠ .none := by
  unfold okLt at h
  simp only [Bool.and_eq_true, decide_eq_true_eq] at h
  refine ⟨h.1.1.1.1, h.1.1.1.2, h.1.1.2, h.1.2, fun e => ?_⟩
  subst e
  exact absurd h.2 (by simp)
def ltF (a b : D) : Option D := if okLt a b = true then some (.bool (PySem.W.dataLt a b)) else none
def gtF (a b : D) : Option D := if okLt a b = true then some (.bool (PySem.W.dataLt b a)) else none
def leF (a b : D) : Option D := if okLt a b = true then some (.bool (!PySem.W.dataLt b a)) else none
def geF (a b : D) : Option D := if okLt a b = true then some (.bool (!PySem.W.dataLt a b)) else none
theorem op_ltA (hu : X.A.units + 64 < cLine) : OpR X (compareOp .Lt) (rD X.K ltF) := by
  intro pins s σ H x y v u Q I rx ry ⟨M, da, db, d, hm, px, py, e, q⟩
  obtain ⟨hl, e⟩ := some_if e
  subst e
  obtain ⟨pa, pb, al, hd, nn⟩ := okLt_un hl
  obtain ⟨as, r1⟩ := px.reads I pa rx
  obtain ⟨bs, r2⟩ := py.reads I pb ry
  exact PySem.W.lt_data r1 r2 al nn (by omega) ⟨.bl _, H, I, rfl, q _ H Al.refl .mkBool⟩
theorem op_gtA (hu : X.A.units + 64 < cLine) : OpR X (compareOp .Gt) (rD X.K gtF) := by
  intro pins s σ H x y v u Q I rx ry ⟨M, da, db, d, hm, px, py, e, q⟩
  obtain ⟨hl, e⟩ := some_if e
  subst e
  obtain ⟨pa, pb, al, hd, nn⟩ := okLt_un hl
  obtain ⟨as, r1⟩ := px.reads I pa rx
  obtain ⟨bs, r2⟩ := py.reads I pb ry
  exact PySem.W.gt_data r1 r2 al nn (by omega) ⟨.bl _, H, I, rfl, q _ H Al.refl .mkBool⟩
theorem op_leA (hu : X.A.units + 64 < cLine) : OpR X (compareOp .LtE) (rD X.K leF) := by
  intro pins s σ H x y v u Q I rx ry ⟨M, da, db, d, hm, px, py, e, q⟩
  obtain ⟨hl, e⟩ := some_if e
  subst e
  obtain ⟨pa, pb, al, hd, nn⟩ := okLt_un hl
  obtain ⟨as, r1⟩ := px.reads I pa rx
  obtain ⟨bs, r2⟩ := py.reads I pb ry
  exact PySem.W.le_data r1 r2 al nn (by omega) ⟨.bl _, H, I, rfl, q _ H Al.refl .mkBool⟩
theorem op_geA (hu : X.A.units + 64 < cLine) : OpR X (compareOp .GtE) (rD X.K geF) := by
  intro pins s σ H x y v u Q I rx ry ⟨M, da, db, d, hm, px, py, e, q⟩
  obtain ⟨hl, e⟩ := some_if e
  subst e
  obtain ⟨pa, pb, al, hd, nn⟩ := okLt_un hl
  obtain ⟨as, r1⟩ := px.reads I pa rx
  obtain ⟨bs, r2⟩ := py.reads I pb ry
  exact PySem.W.ge_data r1 r2 al nn (by omega) ⟨.bl _, H, I, rfl, q _ H Al.refl .mkBool⟩
/-- x in c: a list, a tuple; a text in a text; a key in a dict -/
def hasF : D → D → Option Bool
  | x, .list ds => if x.plain = true ∧ PyData.plainAll ds = true ∧ x.depth ≤ 60 then some (ds.any fun y => PyData.eqv y x) else none
  | x, .tuple ds => if x.plain = true ∧ PyData.plainAll ds = true ∧ x.depth ≤ 60 then some (ds.any fun y => PyData.eqv y x) else none
  | .str x, .str y => some (!(Builtin.Str.occurrences y x 0 y.length 1).isEmpty)
  | _, _ => none
def inF (x c : D) : Option D := (hasF x c).map .bool
def niF (x c : D) : Option D := (hasF x c).map fun b => .bool (!b)
theorem op_inA (hu : X.A.units + 64 < cLine) : OpR X (compareOp .In) (rD X.K inF) := by
  intro pins s σ H x y v u Q I rx ry ⟨M, da, db, d, hm, px, py, e, q⟩
  obtain ⟨b, eb, rfl⟩ := Option.map_eq_some_iff.mp e
  unfold hasF at eb
  split at eb
  · rename_i ds
    obtain ⟨⟨p1, p2, hd⟩, rfl⟩ := some_if eb
    obtain ⟨as, r1⟩ := px.reads I p1 rx
    obtain ⟨bs, r2⟩ := py.reads I (d := .list ds) (by simpa only [PyData.plain] using p2) ry
    exact PySem.SeqAt.in_list_data r2 r1 p2 p1 (by omega) ⟨.bl _, H, I, rfl, q _ H Al.refl .mkBool⟩
  · rename_i ds
    obtain ⟨⟨p1, p2, hd⟩, rfl⟩ := some_if eb
    obtain ⟨as, r1⟩ := px.reads I p1 rx
    obtain ⟨bs, r2⟩ := py.reads I (d := .tuple ds) (by simpa only [PyData.plain] using p2) ry
    exact PySem.SeqAt.in_tuple_data r2 r1 p2 p1 (by omega) ⟨.bl _, H, I, rfl, q _ H Al.refl .mkBool⟩
  · cases eb
    exact op_in_str pins s σ H x y v u Q I rx ry ⟨_, _, px.str, py.str, q _ H Al.refl .mkBool⟩
  · cases eb
theorem op_niA (hu : X.A.units + 64 < cLine) : OpR X (compareOp .NotIn) (rD X.K niF) := by
  intro pins s σ H x y v u Q I rx ry ⟨M, da, db, d, hm, px, py, e, q⟩
  obtain ⟨b, eb, rfl⟩ := Option.map_eq_some_iff.mp e
  unfold hasF at eb
  split at eb
  · rename_i ds
    obtain ⟨⟨p1, p2, hd⟩, rfl⟩ := some_if eb
    obtain ⟨as, r1⟩ := px.reads I p1 rx
    obtain ⟨bs, r2⟩ := py.reads I (d := .list ds) (by simpa only [PyData.plain] using p2) ry
    exact PySem.SeqAt.notIn_list_data r2 r1 p2 p1 (by omega) ⟨.bl _, H, I, rfl, q _ H Al.refl .mkBool⟩
  · rename_i ds
    obtain ⟨⟨p1, p2, hd⟩, rfl⟩ := some_if eb
    obtain ⟨as, r1⟩ := px.reads I p1 rx
    obtain ⟨bs, r2⟩ := py.reads I (d := .tuple ds) (by simpa only [PyData.plain] using p2) ry
    exact PySem.SeqAt.notIn_tuple_data r2 r1 p2 p1 (by omega) ⟨.bl _, H, I, rfl, q _ H Al.refl .mkBool⟩
  · cases eb
    exact op_notin_str pins s σ H x y v u Q I rx ry ⟨_, _, px.str, py.str, q _ H Al.refl .mkBool⟩
  · cases eb
/-- x is None -/
def isNoneD : D → Bool
  | .none => true
  | _ => false
def isF (x y : D) : Option D := if isNoneD y = true then some (.bool (isNoneD x)) else none
def isnF (x y : D) : Option D := if isNoneD y = true then some (.bool (!isNoneD x)) else none
theorem pk_non {K : PySem.W.Frag} {M : Msk} {H : Hp} {d : D} {v : V} (h : Pk K M H d v) : decide (v = .non) = isNoneD d := by
  cases d with
  | none => rw [h.none]; rfl
  | bool b => rw [h.bool]; rfl
  | int b => rw [h.int]; rfl
  | str b => rw [h.str]; rfl
  | list b => obtain ⟨a, _, rfl, _⟩ := h.list; rfl
  | tuple b => obtain ⟨a, _, rfl, _⟩ := h.tuple; rfl
  | dict b => obtain ⟨a, _, rfl, _⟩ := h.dict; rfl
theorem isNone_eq {d : D} (h : isNoneD d = true) : d = .none := by
  cases d <;> first | rfl | cases h
theorem op_isD : OpR X (compareOp .Is) (rD X.K isF) := by
  intro pins s σ H x y v u Q I rx ry ⟨M, da, db, d, hm, px, py, e, q⟩
  obtain ⟨hl, e⟩ := some_if e
  subst e
  have hn := isNone_eq hl
  subst hn
  refine op_isN pins s σ H x y v u Q I rx ry ⟨py.none, q _ H Al.refl ?_⟩
  rw [pk_non px]
  exact .mkBool
theorem op_isnD : OpR X (compareOp .IsNot) (rD X.K isnF) := by
  intro pins s σ H x y v u Q I rx ry ⟨M, da, db, d, hm, px, py, e, q⟩
  obtain ⟨hl, e⟩ := some_if e
  subst e
  have hn := isNone_eq hl
  subst hn
  refine op_notN pins s σ H x y v u Q I rx ry ⟨py.none, q _ H Al.refl ?_⟩
  rw [pk_non px]
  exact .mkBool

/-! ### an item by its place -/
def itF : D → D → Option D
  | .list ds, .int i => atI ds i
  | .tuple ds, .int i => atI ds i
  | .str z, .int i => if z.length ≤ 1000000 then (atI z.cps.toList i).map fun c => .str ⟨#[c]⟩ else none
  | _, _ => none
theorem DatAll.atI {K : PySem.W.Frag} {M : Msk} {H : Hp} {ds : List D} {xs : List V} {i : Int} {d : D} (r : DatAll K M H ds xs) (e : L2.atI ds i = some d) : ∃ v, L2.atI xs i = some v ∧ Dat K M H d v := by
  unfold L2.atI at e ⊢
  rw [r.length]
  cases h : ixN ds.length i with
  | none =>
    rw [h] at e
    cases e
  | some j =>
    rw [h] at e
    exact r.get e
theorem ix_D : IxR X (rD X.K itF) := by
  intro value slice pins s σ H x y v u Q I rx ry ⟨M, da, db, d, hm, px, py, e, q⟩ hs
  unfold itF at e
  split at e
  · obtain ⟨a, xs, rfl, l, r⟩ := px.list
    obtain ⟨w, ew, dw⟩ := r.atI e
    exact ix_list value slice pins s σ H _ y v u Q I rx ry ⟨a, xs, _, w, rfl, py.int, l.sq, ew, q _ H Al.refl dw⟩ hs
  · obtain ⟨a, xs, rfl, l, r⟩ := px.tuple
    obtain ⟨w, ew, dw⟩ := r.atI e
    exact ix_tup value slice pins s σ H _ y v u Q I rx ry ⟨a, xs, _, w, rfl, py.int, l.sq, ew, q _ H Al.refl dw⟩ hs
  · split at e
    · rename_i hl
      obtain ⟨c, ec, rfl⟩ := Option.map_eq_some_iff.mp e
      exact ix_str value slice pins s σ H x y v u Q I rx ry ⟨_, _, c, px.str, py.int, lenLine hl, ec, q _ H Al.refl .mkStr⟩ hs
    · cases e
  · cases e
end
end Dl

set_option Elab.async false
set_option linter.all false
set_option maxRecDepth 100000
namespace Dl
open PySem PySem.Spec PyProof.Rows L2
section
variable {X : Cx} {W : WX} {Mi : Msk} {σ : St} {H H1 : Hp} {δ δ1 : DEnv}

/-! ### tests -/
def toB : D → DEnv → R Bool
  | .bool b, δ => .ok b δ
  | _, _ => .bad
def fB (F : Fe D) : Fe Bool := fun δ => (F δ).bind toB
theorem dt_of {e : Expr} {F : Fe D} {t : TT} (h : ∀ te, PE X e te → PT X e (tB te)) (he : DE X W e F) : DT X W e (fB F) := by
  refine PT.imp (h _ he) fun σ H Q q => ?_
  obtain ⟨Mi, δ, R, q⟩ := tG_bind (P := pD X) q
  refine ⟨Mi, δ, R, q.imp fun v H1 ⟨Mi, d, δ1, R1, p, r⟩ => ?_⟩
  have p' : Dat X.K (msk Mi σ δ1) H1 d v := p
  cases d with
  | bool b =>
    simp only [Dat] at p'
    exact ⟨b, p', r b H1 (Go.refl R1) rfl⟩
  | none => exact False.elim r
  | int _ => exact False.elim r
  | str _ => exact False.elim r
  | list _ => exact False.elim r
  | tuple _ => exact False.elim r
  | dict _ => exact False.elim r
theorem dt_val {e : Expr} {F : Fe D} (h : DE X W e F) (he : ∀ whole, isTrue e X.env whole = (do let v ← whole; standAt e.pos; holding [v] (truthy v)) := by intro _; rfl) : DT X W e (fB F) :=
  dt_of (t := tB (tG X W (pD X) F)) (fun te hp => pt_val hp he) h
theorem bin_rdB {f : D → D → Option D} {F G : Fe Opd} {r : R2} {Q : Bool → Hp → Prop} (o : OpD X.K r f) (q : tG X W pB (fB (fBin f F G)) σ H Q) :
    tG X W (pO X) F σ H fun x H1 => tG X W (pO X) G σ H1 fun y H2 => r x y H2 fun z H3 => ∃ k, z = .bl k ∧ Q k H3 := by
  have q' := tG_bind (P := pD X) q
  refine bin_rd o ?_
  obtain ⟨Mi, δ, R, q'⟩ := q'
  refine ⟨Mi, δ, R, q'.imp fun v H1 ⟨Mi, d, δ1, R1, p, r⟩ => ?_⟩
  have p' : Dat X.K (msk Mi σ δ1) H1 d v := p
  cases d with
  | bool b =>
    simp only [Dat] at p'
    exact ⟨b, p', r b H1 (Go.refl R1) rfl⟩
  | none => exact False.elim r
  | int _ => exact False.elim r
  | str _ => exact False.elim r
  | list _ => exact False.elim r
  | tuple _ => exact False.elim r
  | dict _ => exact False.elim r
theorem dt_cmp {op : CmpOp} {f : D → D → Option D} {a b : Expr} {F G : Fe Opd} {pos} (ho : OpR X (compareOp op) (rD X.K f)) (ha : DP X W a F) (hb : DP X W b G) (hm : behindInMarks op b = false) : DT X W (.Compare a [op] [b] pos) (fB (fBin f F G)) :=
  PT.imp (pt_cmpR ho ha hb hm) fun _ _ _ q => bin_rdB opD_rD q
/-- a op b op' c -/
def fChain (f g : D → D → Option D) (F G J : Fe Opd) : Fe D := fun δ => (F δ).bind fun a δ1 => (G δ1).bind fun b δ2 =>
  (R.of ((opd δ2 a).bind fun da => (opd δ2 b).bind fun db => f da db) δ2).bind fun d δ3 => (toB d δ3).bind fun k δ4 =>
    if k = true then (J δ4).bind fun c δ5 => R.of ((opd δ5 b).bind fun db => (opd δ5 c).bind fun dc => g db dc) δ5 else .ok (.bool false) δ4
theorem R.bind_assoc {α β γ : Type} (r : R α) (f : α → DEnv → R β) (g : β → DEnv → R γ) : (r.bind f).bind g = r.bind fun a δ => (f a δ).bind g := by
  cases r <;> rfl
theorem chain_rd {f g : D → D → Option D} {F G J : Fe Opd} {Q : VK} (q : tG X W (pD X) (fChain f g F G J) σ H Q) : tChain (rD X.K f) (rD X.K g) (tG X W (pO X) F) (tG X W (pO X) G) (tG X W (pO X) J) σ H Q := by
  obtain ⟨Mi, δ, R, q⟩ := tG_bind2 (P := pO X) (P2 := pO X) (F2 := G) stays_O q
  refine ⟨Mi, δ, R, q.imp fun v H1 q1 => ?_⟩
  obtain ⟨Mi, δ, R, q1⟩ := q1
  refine ⟨Mi, δ, R, q1.imp fun u H2 ⟨Mi, a, b, δ2, R2, p1, p2, r⟩ => ?_⟩
  refine of_bin (W := W) opD_rD R2 p1 p2 ((RunG.bind (P := pD X) r).imp fun z H3 ⟨d, δ3, g3, pd, r3⟩ => ?_)
  have pd' : Dat X.K (msk Mi σ δ3) H3 d z := pd
  cases d with
  | bool k =>
    simp only [Dat] at pd'
    refine ⟨k, pd', ?_⟩
    have r3' : RunG X W (pD X) Mi σ H3 δ3 (if k = true then (J δ3).bind fun c δ5 => Dl.R.of ((opd δ5 b).bind fun db => (opd δ5 c).bind fun dc => g db dc) δ5 else .ok (.bool false) δ3) Q := r3
    cases k with
    | true =>
      rw [if_pos rfl] at r3' ⊢
      refine ⟨Mi, δ3, g3.rep, r3'.bind.imp fun w H4 ⟨c, δ4, g4, pc, r4⟩ => ?_⟩
      exact of_bin (W := W) opD_rD g4.rep (stays_O _ _ _ _ _ _ _ _ g3.rep g4 (stays_O _ _ _ _ _ _ _ _ R2 g3 p2)) pc r4
    | false =>
      rw [if_neg (by decide)] at r3' ⊢
      exact r3' _ _ (Go.refl g3.rep) .mkBool
  | none => exact False.elim r3
  | int _ => exact False.elim r3
  | str _ => exact False.elim r3
  | list _ => exact False.elim r3
  | tuple _ => exact False.elim r3
  | dict _ => exact False.elim r3
theorem de_chain {op op' : CmpOp} {f g : D → D → Option D} {a b c : Expr} {F G J : Fe Opd} {pos} (ho : OpR X (compareOp op) (rD X.K f)) (ho' : OpR X (compareOp op') (rD X.K g)) (ha : DP X W a F) (hb : DP X W b G) (hc : DP X W c J)
    (hm : lastMarks [op, op'] [b, c] = false := by with_unfolding_all rfl) : DE X W (.Compare a [op, op'] [b, c] pos) (fChain f g F G J) :=
  PE.imp (pe_chain ho ho' ha hb hc hm) fun _ _ _ q => chain_rd q
theorem toB_imp {F : Fe D} {t : TE} {Q : Bool → Hp → Prop} (h : ∀ σ H Q, tG X W (pD X) F σ H Q → t σ H Q) (q : tG X W pB (fB F) σ H Q) : t σ H fun z H3 => ∃ k, z = .bl k ∧ Q k H3 := by
  refine h _ _ _ ?_
  obtain ⟨Mi, δ, R, q'⟩ := tG_bind (P := pD X) q
  refine ⟨Mi, δ, R, q'.imp fun v H1 ⟨Mi, d, δ1, R1, p, r⟩ => ?_⟩
  have p' : Dat X.K (msk Mi σ δ1) H1 d v := p
  cases d with
  | bool b =>
    simp only [Dat] at p'
    exact ⟨b, p', r b H1 (Go.refl R1) rfl⟩
  | none => exact False.elim r
  | int _ => exact False.elim r
  | str _ => exact False.elim r
  | list _ => exact False.elim r
  | tuple _ => exact False.elim r
  | dict _ => exact False.elim r
theorem dt_chain {op op' : CmpOp} {f g : D → D → Option D} {a b c : Expr} {F G J : Fe Opd} {pos} (ho : OpR X (compareOp op) (rD X.K f)) (ho' : OpR X (compareOp op') (rD X.K g)) (ha : DP X W a F) (hb : DP X W b G) (hc : DP X W c J)
    (hm : lastMarks [op, op'] [b, c] = false := by with_unfolding_all rfl) : DT X W (.Compare a [op, op'] [b, c] pos) (fB (fChain f g F G J)) :=
  PT.imp (pt_chain ho ho' ha hb hc hm) fun _ _ _ q => toB_imp (fun _ _ _ => chain_rd) q
def DW (X : Cx) (W : WX) (e : Expr) (F : Fe Bool) : Prop := PW X e (tG X W pB F)
theorem PW.imp {e : Expr} {t t' : TT} (h : PW X e t) (i : ∀ σ H Q, t' σ H Q → t σ H Q) : PW X e t' := ⟨fun wh pins s σ H Q I q => h.run wh pins s σ H Q I (i σ H Q q)⟩
def fAnd (F G : Fe Bool) : Fe Bool := fun δ => (F δ).bind fun b δ1 => if b = true then G δ1 else .ok false δ1
def fOr (F G : Fe Bool) : Fe Bool := fun δ => (F δ).bind fun b δ1 => if b = true then .ok true δ1 else G δ1
def fNot (F : Fe Bool) : Fe Bool := fun δ => (F δ).bind fun b δ1 => .ok (!b) δ1
variable {a b : Expr} {rest : List Expr} {F G : Fe Bool} {pos : Pos}
theorem dt_w (h : DW X W a F) : DT X W a F := L2.PW.pt h
theorem dw_and1 (ha : DT X W a F) : DW X W (.BoolOp .And [a] pos) F := pw_and1 ha
theorem dw_or1 (ha : DT X W a F) : DW X W (.BoolOp .Or [a] pos) F := pw_or1 ha
theorem dw_and (ha : DT X W a F) (hb : DW X W (.BoolOp .And (b :: rest) pos) G) : DW X W (.BoolOp .And (a :: b :: rest) pos) (fAnd F G) := by
  refine PW.imp (pw_and ha hb) fun σ H Q q => ?_
  obtain ⟨Mi, δ, R, q⟩ := tG_bind (P := pB) q
  refine ⟨Mi, δ, R, q.imp fun c H1 ⟨Mi, k, δ1, R1, p, r⟩ => ?_⟩
  have e : c = k := p
  subst e
  cases c with
  | true => exact iteT ⟨Mi, δ1, R1, r⟩
  | false => exact iteF (r _ _ (Go.refl R1) rfl)
theorem dw_or (ha : DT X W a F) (hb : DW X W (.BoolOp .Or (b :: rest) pos) G) : DW X W (.BoolOp .Or (a :: b :: rest) pos) (fOr F G) := by
  refine PW.imp (pw_or ha hb) fun σ H Q q => ?_
  obtain ⟨Mi, δ, R, q⟩ := tG_bind (P := pB) q
  refine ⟨Mi, δ, R, q.imp fun c H1 ⟨Mi, k, δ1, R1, p, r⟩ => ?_⟩
  have e : c = k := p
  subst e
  cases c with
  | true => exact iteT (r _ _ (Go.refl R1) rfl)
  | false => exact iteF ⟨Mi, δ1, R1, r⟩
theorem dt_not (ha : DT X W a F) : DT X W (.UnaryOp .Not a pos) (fNot F) := by
  refine PT.imp (pt_not ha) fun σ H Q q => ?_
  obtain ⟨Mi, δ, R, q⟩ := tG_bind (P := pB) q
  refine ⟨Mi, δ, R, q.imp fun c H1 ⟨Mi, k, δ1, R1, p, r⟩ => ?_⟩
  have e : c = k := p
  subst e
  exact r _ _ (Go.refl R1) rfl
/-! .. as values, where all but the last are truths -/
def fAndV (F G : Fe D) : Fe D := fun δ => (F δ).bind fun d δ1 => (toB d δ1).bind fun b δ2 => if b = true then G δ2 else .ok (.bool false) δ2
def fOrV (F G : Fe D) : Fe D := fun δ => (F δ).bind fun d δ1 => (toB d δ1).bind fun b δ2 => if b = true then .ok (.bool true) δ2 else G δ2
def fNotV (F : Fe D) : Fe D := fun δ => (F δ).bind fun d δ1 => (toB d δ1).bind fun b δ2 => .ok (.bool (!b)) δ2
variable {Fv Gv : Fe D}
theorem de_one {op} (h : DE X W a Fv) : DE X W (.BoolOp op [a] pos) Fv := pe_one h
theorem de_and (ha : DE X W a Fv) (hb : DE X W (.BoolOp .And (b :: rest) pos) Gv) : DE X W (.BoolOp .And (a :: b :: rest) pos) (fAndV Fv Gv) := by
  refine PE.imp (pe_and ha hb) fun σ H Q q => ?_
  obtain ⟨Mi, δ, R, q⟩ := tG_bind (P := pD X) q
  refine ⟨Mi, δ, R, q.imp fun c H1 ⟨Mi, d, δ1, R1, p, r⟩ => ?_⟩
  have p' : Dat X.K (msk Mi σ δ1) H1 d c := p
  cases d with
  | bool k =>
    simp only [Dat] at p'
    refine ⟨k, p', ?_⟩
    cases k with
    | true => exact iteT ⟨Mi, δ1, R1, r⟩
    | false => exact iteF (r _ _ (Go.refl R1) Dat.mkBool)
  | none => exact False.elim r
  | int _ => exact False.elim r
  | str _ => exact False.elim r
  | list _ => exact False.elim r
  | tuple _ => exact False.elim r
  | dict _ => exact False.elim r
theorem de_or (ha : DE X W a Fv) (hb : DE X W (.BoolOp .Or (b :: rest) pos) Gv) : DE X W (.BoolOp .Or (a :: b :: rest) pos) (fOrV Fv Gv) := by
  refine PE.imp (pe_or ha hb) fun σ H Q q => ?_
  obtain ⟨Mi, δ, R, q⟩ := tG_bind (P := pD X) q
  refine ⟨Mi, δ, R, q.imp fun c H1 ⟨Mi, d, δ1, R1, p, r⟩ => ?_⟩
  have p' : Dat X.K (msk Mi σ δ1) H1 d c := p
  cases d with
  | bool k =>
    simp only [Dat] at p'
    refine ⟨k, p', ?_⟩
    cases k with
    | true => exact iteT (r _ _ (Go.refl R1) Dat.mkBool)
    | false => exact iteF ⟨Mi, δ1, R1, r⟩
  | none => exact False.elim r
  | int _ => exact False.elim r
  | str _ => exact False.elim r
  | list _ => exact False.elim r
  | tuple _ => exact False.elim r
  | dict _ => exact False.elim r
theorem de_not (ha : DE X W a Fv) : DE X W (.UnaryOp .Not a pos) (fNotV Fv) := by
  refine PE.imp (pe_not ha) fun σ H Q q => ?_
  obtain ⟨Mi, δ, R, q⟩ := tG_bind (P := pD X) q
  refine ⟨Mi, δ, R, q.imp fun c H1 ⟨Mi, d, δ1, R1, p, r⟩ => ?_⟩
  have p' : Dat X.K (msk Mi σ δ1) H1 d c := p
  cases d with
  | bool k =>
    simp only [Dat] at p'
    exact ⟨k, p', r _ _ (Go.refl R1) Dat.mkBool⟩
  | none => exact False.elim r
  | int _ => exact False.elim r
  | str _ => exact False.elim r
  | list _ => exact False.elim r
  | tuple _ => exact False.elim r
  | dict _ => exact False.elim r
def fIf (T : Fe Bool) (F G : Fe D) : Fe D := fun δ => (T δ).bind fun b δ1 => if b = true then F δ1 else G δ1
theorem de_if {c : Expr} (hc : DT X W c F) (ha : DE X W a Fv) (hb : DE X W b Gv) : DE X W (.IfExp c a b pos) (fIf F Fv Gv) := by
  refine PE.imp (pe_ifExp hc ha hb) fun σ H Q q => ?_
  obtain ⟨Mi, δ, R, q⟩ := tG_bind (P := pB) q
  refine ⟨Mi, δ, R, q.imp fun c H1 ⟨Mi, k, δ1, R1, p, r⟩ => ?_⟩
  have e : c = k := p
  subst e
  cases c with
  | true => exact iteT ⟨Mi, δ1, R1, r⟩
  | false => exact iteF ⟨Mi, δ1, R1, r⟩
def negF : D → Option D
  | .int a => some (.int (-a))
  | _ => none
def fUn (f : D → Option D) (F : Fe Opd) : Fe D := fun δ => (F δ).bind fun a δ1 => R.of ((opd δ1 a).bind f) δ1
theorem de_neg {Fp : Fe Opd} (ha : DP X W a Fp) : DE X W (.UnaryOp .USub a pos) (fUn negF Fp) := by
  refine PE.imp (pe_un un_neg ha) fun σ H Q q => ?_
  obtain ⟨Mi, δ, R, q⟩ := tG_bind (P := pO X) q
  refine ⟨Mi, δ, R, q.imp fun c H1 ⟨Mi, o, δ1, R1, p, r⟩ => ?_⟩
  cases eo : opd δ1 o with
  | none =>
    rw [eo] at r
    exact False.elim r
  | some d =>
    rw [eo] at r
    have pk := opd_pk rfl R1 p eo
    cases d with
    | int i => exact ⟨i, pk.int, r _ _ (Go.refl R1) Dat.mkInt⟩
    | bool _ => exact False.elim r
    | none => exact False.elim r
    | str _ => exact False.elim r
    | list _ => exact False.elim r
    | tuple _ => exact False.elim r
    | dict _ => exact False.elim r

/-! ### built-ins called with operands -/
def pL (X : Cx) : Rl (List Opd) (List V) := fun Mi os σ δ H vs => os.length = vs.length ∧ ∀ (i : Nat) (o : Opd) (v : V), os[i]? = some o → vs[i]? = some v → pO X Mi o σ δ H v
def DL (X : Cx) (W : WX) (es : List Expr) (F : Fe (List Opd)) : Prop := PA X es (tG X W (pL X) F)
theorem stays_L : Stays (X := X) (pL X) := fun Mi a σ δ H v H' δ' R g ⟨hl, p⟩ => ⟨hl, fun i o u e1 e2 => stays_O _ _ _ _ _ _ _ _ R g (p i o u e1 e2)⟩
def lNil : Fe (List Opd) := fun δ => .ok [] δ
def lCons (F : Fe Opd) (G : Fe (List Opd)) : Fe (List Opd) := fun δ => (F δ).bind fun d δ1 => (G δ1).bind fun ds δ2 => .ok (d :: ds) δ2
theorem dl_nil : DL X W [] lNil := PA.imp pa_nil fun σ H Q ⟨Mi, δ, R, h⟩ => h [] H (Go.refl R) ⟨rfl, fun i o v e => by simp at e⟩
theorem dl_cons {e : Expr} {es : List Expr} {F : Fe Opd} {G : Fe (List Opd)} (h : DP X W e F) (t : DL X W es G) (hs : starEach (e :: es) X.env = (false, eval e X.env) :: starEach es X.env := by rfl) : DL X W (e :: es) (lCons F G) := by
  refine PA.imp (pa_cons h t hs) fun σ H Q q => ?_
  have q' := tG_bind2 (P := pO X) (P2 := pL X) (F2 := G) stays_O q
  obtain ⟨Mi, δ, R, q'⟩ := q'
  refine ⟨Mi, δ, R, q'.imp fun v H1 q1 => ?_⟩
  obtain ⟨Mi, δ, R, q1⟩ := q1
  refine ⟨Mi, δ, R, q1.imp fun u H2 ⟨Mi, a, b, δ2, R2, p1, p2, r⟩ => r (v :: u) H2 (Go.refl R2) ⟨by rw [List.length_cons, List.length_cons, p2.1], fun i o w e1 e2 => ?_⟩⟩
  match i, e1, e2 with
  | 0, e1, e2 =>
    have h1 : a = o := Option.some.inj e1
    have h2 : v = w := Option.some.inj e2
    rw [← h1, ← h2]
    exact p1
  | i + 1, e1, e2 => exact p2.2 i o w (by simpa using e1) (by simpa using e2)
def opds (δ : DEnv) : List Opd → Option (List D)
  | [] => some []
  | o :: os => (opd δ o).bind fun d => (opds δ os).map (d :: ·)
inductive PkAll (K : PySem.W.Frag) (M : Msk) (H : Hp) : List D → List V → Prop
  | nil : PkAll K M H [] []
  | cons {d : D} {v : V} {ds : List D} {vs : List V} : Pk K M H d v → PkAll K M H ds vs → PkAll K M H (d :: ds) (v :: vs)
theorem opds_pk (R : Rep X.K Mi σ H δ) : ∀ {os : List Opd} {ds : List D} {vs : List V}, pL X Mi os σ δ H vs → opds δ os = some ds → PkAll X.K (msk Mi σ δ) H ds vs
  | [], _, vs, ⟨hl, _⟩, e => by
    cases e
    cases vs with
    | nil => exact .nil
    | cons _ _ => simp at hl
  | o :: os, ds, vs, ⟨hl, p⟩, e => by
    cases vs with
    | nil => simp at hl
    | cons v vs =>
      unfold opds at e
      cases eo : opd δ o with
      | none =>
        rw [eo] at e
        cases e
      | some d =>
        rw [eo] at e
        obtain ⟨es, e1, rfl⟩ := Option.map_eq_some_iff.mp e
        exact .cons (opd_pk rfl R (p 0 o v rfl rfl) eo) (opds_pk R ⟨by simpa using hl, fun i a b h1 h2 => p (i + 1) a b (by simpa using h1) (by simpa using h2)⟩ e1)
/-- a built-in by what it does with data -/
def rC (K : PySem.W.Frag) (f : List D → Option D) : List V → Hp → VK → Prop := fun xs H Q =>
  ∃ (M : Msk) (ds : List D) (d : D), (∀ a, M a → H a ≠ none) ∧ PkAll K M H ds xs ∧ f ds = some d ∧ ∀ v H', Al H H' → Dat K M H' d v → Q v H'
def fCall (f : List D → Option D) (F : Fe (List Opd)) : Fe D := fun δ => (F δ).bind fun os δ1 => R.of ((opds δ1 os).bind f) δ1
theorem of_call {f : List D → Option D} {os : List Opd} {xs : List V} {Q : VK} (Rp : Rep X.K Mi σ H δ) (p : pL X Mi os σ δ H xs) (h : RunG X W (pD X) Mi σ H δ (R.of ((opds δ os).bind f) δ) Q) : rC X.K f xs H Q := by
  cases e : opds δ os with
  | none =>
    rw [e] at h
    exact h.elim
  | some ds =>
    rw [e] at h
    have h' : RunG X W (pD X) Mi σ H δ (R.of (f ds) δ) Q := h
    cases e2 : f ds with
    | none =>
      rw [e2] at h'
      exact h'.elim
    | some d =>
      rw [e2] at h'
      exact ⟨_, ds, d, fun a z => Rp.dom' z, opds_pk Rp p e, e2, fun v H' al dv => h' v H' (Go.al Rp al) dv⟩
theorem call_rd {f : List D → Option D} {F : Fe (List Opd)} {Q : VK} (q : tG X W (pD X) (fCall f F) σ H Q) : tCB (rC X.K f) (tG X W (pL X) F) σ H Q := by
  obtain ⟨Mi, δ, R, q⟩ := tG_bind (P := pL X) q
  exact ⟨Mi, δ, R, q.imp fun xs H1 ⟨Mi, os, δ1, R1, p, r⟩ => of_call R1 p r⟩
theorem de_callB {x : Str} {p pos : Pos} {e : Expr} {es : List Expr} {id : String} {f : List D → Option D} {F : Fe (List Opd)} (hc : CallR X (.builtin id) (rC X.K f)) (hg : Gl X x) (hm : X.mg x = none) (hv : bootBuiltins x = some (.builtin id)) (ha : DL X W (e :: es) F)
    (hn : x ≠ "__name__" := by decide +kernel) (hdb : (x == ("__debug__" : Str)) = false := by decide +kernel) (he : starEach (e :: es) X.env = (false, eval e X.env) :: starEach es X.env := by rfl) (hpl : (backTo pos (starEach es X.env)).any (·.1) = false := by rfl) :
    DE X W (.Call (.Name x p) (e :: es) [] pos) (fCall f F) := PE.imp (pe_callB hc hg hm hv ha hn hdb he hpl) fun _ _ _ q => call_rd q
theorem de_callTy {x : Str} {p pos : Pos} {e : Expr} {es : List Expr} {T : String} {f : List D → Option D} {F : Fe (List Opd)} (hc : CallR X (.type T) (rC X.K f)) (hg : Gl X x) (hm : X.mg x = none) (hv : bootBuiltins x = some (.type T)) (ha : DL X W (e :: es) F)
    (hn : x ≠ "__name__" := by decide +kernel) (hdb : (x == ("__debug__" : Str)) = false := by decide +kernel) (he : starEach (e :: es) X.env = (false, eval e X.env) :: starEach es X.env := by rfl) (hpl : (backTo pos (starEach es X.env)).any (·.1) = false := by rfl) :
    DE X W (.Call (.Name x p) (e :: es) [] pos) (fCall f F) := PE.imp (pe_callTy hc hg hm hv ha hn hdb he hpl) fun _ _ _ q => call_rd q
theorem PkAll.one {K : PySem.W.Frag} {M : Msk} {H : Hp} {ds : List D} {v : V} {vs : List V} {d : D} (h : PkAll K M H [d] vs) : ∃ v, vs = [v] ∧ Pk K M H d v := by
  cases h with
  | cons h t => cases t; exact ⟨_, rfl, h⟩
theorem PkAll.two {K : PySem.W.Frag} {M : Msk} {H : Hp} {vs : List V} {d e : D} (h : PkAll K M H [d, e] vs) : ∃ v u, vs = [v, u] ∧ Pk K M H d v ∧ Pk K M H e u := by
  cases h with
  | cons h t => cases t with
    | cons h2 t2 => cases t2; exact ⟨_, _, rfl, h, h2⟩
def lenF : List D → Option D
  | [.list ds] => some (.int ds.length)
  | [.tuple ds] => some (.int ds.length)
  | [.str s] => if s.length ≤ 1000000 then some (.int s.length) else none
  | _ => none
theorem call_lenD : CallR X (.builtin "len") (rC X.K lenF) := by
  intro pins s σ H xs us Q I r ⟨M, ds, d, hm, ps, e, q⟩
  unfold lenF at e
  split at e
  · cases e
    obtain ⟨v, rfl, p⟩ := PkAll.one (ds := []) (v := .non) ps
    obtain ⟨a, ys, rfl, l, rr⟩ := p.list
    exact call_len_seq pins s σ H _ us Q I r ⟨a, ys, rfl, .inl l.sq, q _ H Al.refl (by rw [rr.length]; exact .mkInt)⟩
  · cases e
    obtain ⟨v, rfl, p⟩ := PkAll.one (ds := []) (v := .non) ps
    obtain ⟨a, ys, rfl, l, rr⟩ := p.tuple
    exact call_len_seq pins s σ H _ us Q I r ⟨a, ys, rfl, .inr l.sq, q _ H Al.refl (by rw [rr.length]; exact .mkInt)⟩
  · obtain ⟨hl, e⟩ := some_if e
    subst e
    obtain ⟨v, rfl, p⟩ := PkAll.one (ds := []) (v := .non) ps
    exact call_len_str pins s σ H _ us Q I r ⟨_, by rw [p.str], lenLine hl, q _ H Al.refl .mkInt⟩
  · cases e
def absF : List D → Option D
  | [.int i] => some (.int (if i < 0 then -i else i))
  | _ => none
theorem call_absD : CallR X (.builtin "abs") (rC X.K absF) := by
  intro pins s σ H xs us Q I r ⟨M, ds, d, hm, ps, e, q⟩
  unfold absF at e
  split at e
  · cases e
    obtain ⟨v, rfl, p⟩ := PkAll.one (ds := []) (v := .non) ps
    exact call_abs pins s σ H _ us Q I r ⟨_, by rw [p.int], q _ H Al.refl .mkInt⟩
  · cases e
def intF : List D → Option D
  | [.int i] => some (.int i)
  | [.bool k] => some (.int (if k then 1 else 0))
  | [.str a] => if a.length ≤ 640 then (PySem.intText? a).map .int else none
  | _ => none
theorem call_intD : CallR X (.type "int") (rC X.K intF) := by
  intro pins s σ H xs us Q I r ⟨M, ds, d, hm, ps, e, q⟩
  unfold intF at e
  split at e
  · cases e
    obtain ⟨v, rfl, p⟩ := PkAll.one (ds := []) (v := .non) ps
    exact call_int1 pins s σ H _ us Q I r (.inl ⟨_, by rw [p.int], q _ H Al.refl .mkInt⟩)
  · cases e
    obtain ⟨v, rfl, p⟩ := PkAll.one (ds := []) (v := .non) ps
    exact call_int1 pins s σ H _ us Q I r (.inr ⟨_, by rw [p.bool], q _ H Al.refl .mkInt⟩)
  · split at e
    · rename_i hl
      obtain ⟨n, en, rfl⟩ := Option.map_eq_some_iff.mp e
      obtain ⟨v, rfl, p⟩ := PkAll.one (ds := []) (v := .non) ps
      exact call_int_str pins s σ H _ us Q I r ⟨_, n, by rw [p.str], en, hl, q _ H Al.refl .mkInt⟩
    · cases e
  · cases e
/-- repr of data without dicts -/
def reprF : List D → Option D
  | [d] => if d.showable = true ∧ d.plain = true ∧ d.depth ≤ 60 ∧ d.shown.length ≤ 1000000 then some (.str d.shown) else none
  | _ => none
mutual
theorem noDict_of_plain : ∀ {d : D}, d.plain = true → d.hasDict = false
  | .none, _ => by simp only [PyData.hasDict]
  | .bool _, _ => by simp only [PyData.hasDict]
  | .int _, _ => by simp only [PyData.hasDict]
  | .str _, _ => by simp only [PyData.hasDict]
  | .list xs, h => by
    simp only [PyData.hasDict]
    exact noDictAll_of_plain (ds := xs) (by simpa only [PyData.plain] using h)
  | .tuple xs, h => by
    simp only [PyData.hasDict]
    exact noDictAll_of_plain (ds := xs) (by simpa only [PyData.plain] using h)
  | .dict _, h => by simp only [PyData.plain] at h; cases h
theorem noDictAll_of_plain : ∀ {ds : List D}, PyData.plainAll ds = true → PyData.hasDictAll ds = false
  | [], _ => by simp only [PyData.hasDictAll]
  | d :: ds, h => by
    simp only [PyData.plainAll, Bool.and_eq_true] at h
    simp only [PyData.hasDictAll, noDict_of_plain h.1, noDictAll_of_plain h.2, Bool.or_false]
end
theorem call_reprD {k : Nat} (ok : Ok X k) : CallR X (.builtin "repr") (rC X.K reprF) := by
  intro pins s σ H xs us Q I r ⟨M, ds, d, hm, ps, e, q⟩
  unfold reprF at e
  split at e
  · rename_i d0
    obtain ⟨⟨h1, h2, h3, h4⟩, e⟩ := some_if e
    subst e
    obtain ⟨v, rfl, p⟩ := PkAll.one (ds := []) (v := .non) ps
    obtain ⟨u, rfl, ru⟩ := Vals.one r
    obtain ⟨as, rd⟩ := p.reads I h2 ru
    have hu := ok.hu
    have fin : ∀ h' tk t, (∀ b o, s.heap.get? b = some o → h'.get? b = some o) → EP X pins σ Q (.str d0.shown t) { s with heap := h', toks := tk } := fun h' tk t hk =>
      ⟨.str _, H, I.kept (t' := tk) hk, ⟨_, rfl⟩, q _ H Al.refl .mkStr⟩
    cases d0 with
    | none =>
      cases rd
      exact PySem.P.repr_of_none (fin _ (s.toks + 1) s.toks fun _ _ e => e)
    | bool b =>
      cases rd
      exact PySem.P.repr_of_bool (fin _ (s.toks + 1) s.toks fun _ _ e => e)
    | int i =>
      cases rd
      simp only [PyData.showable, decide_eq_true_eq] at h1
      exact PySem.P.repr_of_int h1 (fin _ (s.toks + 1) s.toks fun _ _ e => e)
    | str x =>
      cases rd
      exact PySem.P.repr_of_str (fin _ (s.toks + 1) s.toks fun _ _ e => e) (lenLine h4)
    | list xs =>
      obtain ⟨a, rfl⟩ : ∃ a, u = .ref a := by cases rd; exact ⟨_, rfl⟩
      exact repr_of_reads' rd h1 (fun z => by rw [noDict_of_plain h2] at z; cases z) ok.gd (by omega) (fun _ _ e => e) (fun h' t tk hk => fin h' tk t hk) (lenLine h4)
    | tuple xs =>
      obtain ⟨a, rfl⟩ : ∃ a, u = .ref a := by cases rd; exact ⟨_, rfl⟩
      exact repr_of_reads' rd h1 (fun z => by rw [noDict_of_plain h2] at z; cases z) ok.gd (by omega) (fun _ _ e => e) (fun h' t tk hk => fin h' tk t hk) (lenLine h4)
    | dict kvs =>
      simp only [PyData.plain] at h2
      cases h2
  · cases e
/-- all, any of a list of truths -/
def bools : List D → Option (List Bool)
  | [] => some []
  | .bool b :: r => (bools r).map (b :: ·)
  | _ => none
theorem bools_eq : ∀ {ds : List D} {bs : List Bool}, bools ds = some bs → ds = bs.map .bool
  | [], _, e => by cases e; rfl
  | .bool b :: r, _, e => by
    simp only [bools] at e
    obtain ⟨bs, h, rfl⟩ := Option.map_eq_some_iff.mp e
    rw [bools_eq h]
    rfl
  | .none :: _, _, e => by simp [bools] at e
  | .int _ :: _, _, e => by simp [bools] at e
  | .str _ :: _, _, e => by simp [bools] at e
  | .list _ :: _, _, e => by simp [bools] at e
  | .tuple _ :: _, _, e => by simp [bools] at e
  | .dict _ :: _, _, e => by simp [bools] at e
theorem DatAll.bools {K : PySem.W.Frag} {M : Msk} {H : Hp} : ∀ {bs : List Bool} {vs : List V}, DatAll K M H (bs.map .bool) vs → vs = bs.map V.bl
  | [], _, h => h.nil_inv
  | b :: bs, _, h => by
    obtain ⟨v, r, rfl, h1, h2⟩ := h.cons_inv
    simp only [Dat] at h1
    rw [h1, DatAll.bools h2]
    rfl
def allF : List D → Option D
  | [.list ds] => (bools ds).map fun bs => .bool (bs.all id)
  | _ => none
def anyF : List D → Option D
  | [.list ds] => (bools ds).map fun bs => .bool (bs.any id)
  | _ => none
theorem call_allD (hc : X.calm = true) : CallR X (.builtin "all") (rC X.K allF) := by
  intro pins s σ H xs us Q I r ⟨M, ds, d, hm, ps, e, q⟩
  unfold allF at e
  split at e
  · obtain ⟨bs, h, rfl⟩ := Option.map_eq_some_iff.mp e
    obtain ⟨v, rfl, p⟩ := PkAll.one (ds := []) (v := .non) ps
    obtain ⟨a, ys, rfl, l, rr⟩ := p.list
    rw [bools_eq h] at rr
    have e := rr.bools
    subst e
    exact cr_all hc pins s σ H _ us Q I r ⟨a, bs, rfl, l.sq, q _ H Al.refl .mkBool⟩
  · cases e
theorem call_anyD (hc : X.calm = true) : CallR X (.builtin "any") (rC X.K anyF) := by
  intro pins s σ H xs us Q I r ⟨M, ds, d, hm, ps, e, q⟩
  unfold anyF at e
  split at e
  · obtain ⟨bs, h, rfl⟩ := Option.map_eq_some_iff.mp e
    obtain ⟨v, rfl, p⟩ := PkAll.one (ds := []) (v := .non) ps
    obtain ⟨a, ys, rfl, l, rr⟩ := p.list
    rw [bools_eq h] at rr
    have e := rr.bools
    subst e
    exact cr_any hc pins s σ H _ us Q I r ⟨a, bs, rfl, l.sq, q _ H Al.refl .mkBool⟩
  · cases e
/-- list(x), tuple(x), as new things that are shared from the start -/
def listF : List D → Option D
  | [.list ds] => some (.list ds)
  | [.tuple ds] => some (.list ds)
  | _ => none
theorem call_listD : CallR X (.type "list") (rC X.K listF) := by
  intro pins s σ H xs us Q I r ⟨M, ds, d, hm, ps, e, q⟩
  unfold listF at e
  split at e
  · cases e
    obtain ⟨v, rfl, p⟩ := PkAll.one (ds := []) (v := .non) ps
    obtain ⟨a, ys, rfl, l, rr⟩ := p.list
    exact call_list_of pins s σ H _ us Q I r ⟨a, ys, rfl, .inl l.sq, fun l n => q _ _ (Al.new n) (.newLst hm n rr)⟩
  · cases e
    obtain ⟨v, rfl, p⟩ := PkAll.one (ds := []) (v := .non) ps
    obtain ⟨a, ys, rfl, l, rr⟩ := p.tuple
    exact call_list_of pins s σ H _ us Q I r ⟨a, ys, rfl, .inr l.sq, fun l n => q _ _ (Al.new n) (.newLst hm n rr)⟩
  · cases e
def tupleF : List D → Option D
  | [.list ds] => some (.tuple ds)
  | [.tuple ds] => some (.tuple ds)
  | _ => none
theorem call_tupleD : CallR X (.type "tuple") (rC X.K tupleF) := by
  intro pins s σ H xs us Q I r ⟨M, ds, d, hm, ps, e, q⟩
  unfold tupleF at e
  split at e
  · cases e
    obtain ⟨v, rfl, p⟩ := PkAll.one (ds := []) (v := .non) ps
    obtain ⟨a, ys, rfl, l, rr⟩ := p.list
    exact call_tuple_of pins s σ H _ us Q I r ⟨a, ys, rfl, .inl ⟨l.sq, fun l n => q _ _ (Al.new n) (.newTup hm n rr)⟩⟩
  · cases e
    obtain ⟨v, rfl, p⟩ := PkAll.one (ds := []) (v := .non) ps
    obtain ⟨a, ys, rfl, l, rr⟩ := p.tuple
    exact call_tuple_of pins s σ H _ us Q I r ⟨a, ys, rfl, .inr ⟨l.sq, q _ H Al.refl (.mkTup l rr)⟩⟩
  · cases e
/-! isinstance(x, T) -/
def tyN : D → String
  | .none => "NoneType"
  | .bool _ => "bool"
  | .int _ => "int"
  | .str _ => "str"
  | .list _ => "list"
  | .tuple _ => "tuple"
  | .dict _ => "dict"
def isiT (t T : String) : Bool := t == T || (t == "bool" && T == "int")
def isiB (T : String) (d : D) : Bool := isiT (tyN d) T
theorem pk_ty {M : Msk} {H : Hp} {d : D} {v : V} (h : Pk X.K M H d v) : TyX X.K H v (.type (tyN d)) := by
  cases d with
  | none => rw [h.none]; exact .base .non
  | bool b => rw [h.bool]; exact .base (.bl b)
  | int b => rw [h.int]; exact .base (.int b)
  | str b => rw [h.str]; exact .base (.str b)
  | list b =>
    obtain ⟨a, xs, rfl, (l | ⟨o, l⟩) | ⟨_, _, e, _⟩, _⟩ := h.list
    · exact .base (.lst l)
    · exact .base (.frz l)
    · exact .kList e rfl
  | tuple b =>
    obtain ⟨a, xs, rfl, ⟨_, l | ⟨o, l⟩⟩ | l, _⟩ := h.tuple
    · exact .base (.tup l)
    · exact .fTuple l
    · rcases l (fun _ => Option.none) with (z | ⟨_, z⟩) | ⟨o, _, _, e, c, _⟩
      · cases z
      · cases z
      · exact .kTuple e c
  | dict b =>
    obtain ⟨a, kv, rfl, l | ⟨o, l⟩, _⟩ := h.dict
    · exact .base (.dK l)
    · exact .fDict l
def fIsi (T : String) (F : Fe Opd) : Fe D := fun δ => (F δ).bind fun o δ1 => R.of ((opd δ1 o).map fun d => .bool (isiB T d)) δ1
/-- T is one of the built-in classes that we ask for -/
def Kits (K : PySem.W.Frag) (T : String) : Prop := ∀ d : D, PySem.W.kitOne K (.type (tyN d)) (.type T) = some (isiB T d)
theorem de_isi {T : String} {x : Str} {p p2 pos : Pos} {e : Expr} {F : Fe Opd} (hk : Kits X.K T) (hg : Gl X "isinstance") (hm : X.mg "isinstance" = none) (hgT : Gl X x) (hmT : X.mg x = none) (hvT : bootBuiltins x = some (.type T)) (ha : DP X W e F)
    (hv : bootBuiltins "isinstance" = some (.builtin "isinstance") := by decide +kernel) (hn2 : x ≠ "__name__" := by decide +kernel) (hdb2 : (x == ("__debug__" : Str)) = false := by decide +kernel)
    (hn : ("isinstance" : Str) ≠ "__name__" := by decide +kernel) (hdb : (("isinstance" : Str) == ("__debug__" : Str)) = false := by decide +kernel)
    (he : starEach [e, .Name x p2] X.env = (false, eval e X.env) :: starEach [.Name x p2] X.env := by rfl) (hpl : (backTo pos (starEach [.Name x p2] X.env)).any (·.1) = false := by rfl) :
    DE X W (.Call (.Name "isinstance" p) [e, .Name x p2] [] pos) (fIsi T F) := by
  refine PE.imp (pe_callB call_isi hg hm hv (pa_cons ha (pa_cons (pe_bltn (v := .ty T) hgT hmT hvT rfl hn2 hdb2) pa_nil) he) hn hdb he hpl) fun σ H Q q => ?_
  obtain ⟨Mi, δ, R, q⟩ := tG_bind (P := pO X) q
  refine ⟨Mi, δ, R, q.imp fun v H1 ⟨Mi, o, δ1, R1, p1, r⟩ => ?_⟩
  cases eo : opd δ1 o with
  | none =>
    rw [eo] at r
    exact False.elim r
  | some d =>
    rw [eo] at r
    have pk := opd_pk rfl R1 p1 eo
    exact ⟨v, .ty T, _, _, _, rfl, .ty T, pk_ty pk, hk d, r _ _ (Go.refl R1) .mkBool⟩
theorem kits_int (K : PySem.W.Frag) : Kits K "int" := fun d => by
  cases d
  · exact kit_ty (show kitB "NoneType" "int" = some (isiT "NoneType" "int") by decide +kernel)
  · exact kit_ty (show kitB "bool" "int" = some (isiT "bool" "int") by decide +kernel)
  · exact kit_ty (show kitB "int" "int" = some (isiT "int" "int") by decide +kernel)
  · exact kit_ty (show kitB "str" "int" = some (isiT "str" "int") by decide +kernel)
  · exact kit_ty (show kitB "list" "int" = some (isiT "list" "int") by decide +kernel)
  · exact kit_ty (show kitB "tuple" "int" = some (isiT "tuple" "int") by decide +kernel)
  · exact kit_ty (show kitB "dict" "int" = some (isiT "dict" "int") by decide +kernel)
theorem kits_bool (K : PySem.W.Frag) : Kits K "bool" := fun d => by
  cases d
  · exact kit_ty (show kitB "NoneType" "bool" = some (isiT "NoneType" "bool") by decide +kernel)
  · exact kit_ty (show kitB "bool" "bool" = some (isiT "bool" "bool") by decide +kernel)
  · exact kit_ty (show kitB "int" "bool" = some (isiT "int" "bool") by decide +kernel)
  · exact kit_ty (show kitB "str" "bool" = some (isiT "str" "bool") by decide +kernel)
  · exact kit_ty (show kitB "list" "bool" = some (isiT "list" "bool") by decide +kernel)
  · exact kit_ty (show kitB "tuple" "bool" = some (isiT "tuple" "bool") by decide +kernel)
  · exact kit_ty (show kitB "dict" "bool" = some (isiT "dict" "bool") by decide +kernel)
theorem kits_str (K : PySem.W.Frag) : Kits K "str" := fun d => by
  cases d
  · exact kit_ty (show kitB "NoneType" "str" = some (isiT "NoneType" "str") by decide +kernel)
  · exact kit_ty (show kitB "bool" "str" = some (isiT "bool" "str") by decide +kernel)
  · exact kit_ty (show kitB "int" "str" = some (isiT "int" "str") by decide +kernel)
  · exact kit_ty (show kitB "str" "str" = some (isiT "str" "str") by decide +kernel)
  · exact kit_ty (show kitB "list" "str" = some (isiT "list" "str") by decide +kernel)
  · exact kit_ty (show kitB "tuple" "str" = some (isiT "tuple" "str") by decide +kernel)
  · exact kit_ty (show kitB "dict" "str" = some (isiT "dict" "str") by decide +kernel)
theorem kits_list (K : PySem.W.Frag) : Kits K "list" := fun d => by
  cases d
  · exact kit_ty (show kitB "NoneType" "list" = some (isiT "NoneType" "list") by decide +kernel)
  · exact kit_ty (show kitB "bool" "list" = some (isiT "bool" "list") by decide +kernel)
  · exact kit_ty (show kitB "int" "list" = some (isiT "int" "list") by decide +kernel)
  · exact kit_ty (show kitB "str" "list" = some (isiT "str" "list") by decide +kernel)
  · exact kit_ty (show kitB "list" "list" = some (isiT "list" "list") by decide +kernel)
  · exact kit_ty (show kitB "tuple" "list" = some (isiT "tuple" "list") by decide +kernel)
  · exact kit_ty (show kitB "dict" "list" = some (isiT "dict" "list") by decide +kernel)
theorem kits_tuple (K : PySem.W.Frag) : Kits K "tuple" := fun d => by
  cases d
  · exact kit_ty (show kitB "NoneType" "tuple" = some (isiT "NoneType" "tuple") by decide +kernel)
  · exact kit_ty (show kitB "bool" "tuple" = some (isiT "bool" "tuple") by decide +kernel)
  · exact kit_ty (show kitB "int" "tuple" = some (isiT "int" "tuple") by decide +kernel)
  · exact kit_ty (show kitB "str" "tuple" = some (isiT "str" "tuple") by decide +kernel)
  · exact kit_ty (show kitB "list" "tuple" = some (isiT "list" "tuple") by decide +kernel)
  · exact kit_ty (show kitB "tuple" "tuple" = some (isiT "tuple" "tuple") by decide +kernel)
  · exact kit_ty (show kitB "dict" "tuple" = some (isiT "dict" "tuple") by decide +kernel)
theorem kits_dict (K : PySem.W.Frag) : Kits K "dict" := fun d => by
  cases d
  · exact kit_ty (show kitB "NoneType" "dict" = some (isiT "NoneType" "dict") by decide +kernel)
  · exact kit_ty (show kitB "bool" "dict" = some (isiT "bool" "dict") by decide +kernel)
  · exact kit_ty (show kitB "int" "dict" = some (isiT "int" "dict") by decide +kernel)
  · exact kit_ty (show kitB "str" "dict" = some (isiT "str" "dict") by decide +kernel)
  · exact kit_ty (show kitB "list" "dict" = some (isiT "list" "dict") by decide +kernel)
  · exact kit_ty (show kitB "tuple" "dict" = some (isiT "tuple" "dict") by decide +kernel)
  · exact kit_ty (show kitB "dict" "dict" = some (isiT "dict" "dict") by decide +kernel)
end
end Dl

set_option Elab.async false
set_option linter.all false
set_option maxRecDepth 100000
namespace Dl
open PySem PySem.Spec PyProof.Rows L2

def plus (Mi : Msk) (a : Addr) : Msk := fun b => Mi b ∨ b = a
section
variable {K : PySem.W.Frag} {Mi Mo : Msk} {σ σ' σ2 : St} {H H' H2 : Hp} {δ δ' δ2 : DEnv}

/-! ### new containers, out of everybody's sight -/
theorem Mv.shrink {M M' : Msk} (h : ∀ a, M' a → M a) : Mv M H M' H := fun a o n e => ⟨fun z => n (h a z), e⟩
theorem trk_upd {p : Addr} {o : HO} : ∀ a, upd H p o a = none → H a = none := fun a h => by
  by_cases e : a = p
  · subst e
    rw [upd_same] at h
    cases h
  · rw [upd_ne e] at h
    exact h
/-- the cells, under other bounds -/
theorem CellR.mv {Mi Mi' M M' : Msk} {v : V} {c : Cell} (m : Mv M H M' H') (h1 : ∀ a o, c.isMut = true → v = .ref a → H a = some o → ¬ Mi a → ¬ Mi' a) (h2 : ∀ a, c.isMut = true → Mi a → v = .ref a → Mi' a) (hk : ∀ a, c.isMut = true → v = .ref a → H' a = H a) (h : CellR K Mi M H v c) : CellR K Mi' M' H' v c := by
  cases c with
  | val d => exact Dat.mv m h
  | own d =>
    obtain ⟨a, e, n, q⟩ := h
    obtain ⟨o, eo⟩ := q.some
    exact ⟨a, e, h1 a o rfl e eo n, q.mv m (hk a rfl e)⟩
  | ref d =>
    obtain ⟨a, e, n, q⟩ := h
    exact ⟨a, e, h2 a rfl n e, q.mv m (hk a rfl e)⟩
  | exc a dd x => exact ⟨h.1, h.2.mv m⟩
theorem Go.new (R : Rep K Mi σ H δ) {p : Addr} {o : HO} (n : H p = none) : Go K Mi (plus Mi p) σ H δ σ (upd H p o) δ := by
  have m : Mv (msk Mi σ δ) H (msk (plus Mi p) σ δ) (upd H p o) := fun a u q e => ⟨fun z => by
    rcases z with (z | z) | z
    · exact q (.inl z)
    · subst z
      rw [n] at e
      cases e
    · exact q (.inr z), Al.new n a u e⟩
  refine ⟨⟨R.len, fun i c e => ?_, R.sep, fun a z => ?_⟩, fun a u _ _ e => Al.new n a u e, fun _ h => .inl h, fun _ h => ⟨rfl, h⟩, fun _ h => h, trk_upd⟩
  · obtain ⟨v, e1, r⟩ := R.cell i c e
    refine ⟨v, e1, r.mv m (fun a u _ _ eu z y => y.elim z fun w => ?_) (fun a _ z _ => .inl z) fun a hm ev => ?_⟩
    · subst w
      rw [n] at eu
      cases eu
    · refine upd_ne fun w => ?_
      subst w
      cases c with
      | val d => cases hm
      | own d =>
        obtain ⟨b, e, _, q⟩ := r
        rw [ev] at e
        cases e
        obtain ⟨u, eu⟩ := q.some
        rw [n] at eu
        cases eu
      | ref d =>
        obtain ⟨b, e, _, q⟩ := r
        rw [ev] at e
        cases e
        obtain ⟨u, eu⟩ := q.some
        rw [n] at eu
        cases eu
      | exc _ _ _ => cases hm
  · rcases z with z | z
    · intro q
      exact R.dom a z (trk_upd a q)
    · subst z
      rw [upd_same]
      exact Option.some_ne_none _
/-- a new container is given up -/
theorem Go.drop (R : Rep K Mi σ H δ) {p : Addr} (g : Go K Mi (plus Mi p) σ H δ σ' H' δ') (n : H p = none) : Go K Mi Mi σ H δ σ' H' δ' := by
  have m : Mv (msk (plus Mi p) σ' δ') H' (msk Mi σ' δ') H' := Mv.shrink fun a z => z.elim (fun z => .inl (.inl z)) .inr
  refine ⟨⟨g.rep.len, fun i c e => ?_, g.rep.sep, fun a z => g.rep.dom a (.inl z)⟩, g.stab, g.own, g.lent, g.lentB, g.trk⟩
  obtain ⟨v, e1, r⟩ := g.rep.cell i c e
  refine ⟨v, e1, r.mv m (fun a u _ _ _ z y => z (.inl y)) (fun a hm z ev => ?_) fun _ _ _ => rfl⟩
  subst ev
  cases c with
  | val d => cases hm
  | own d =>
    obtain ⟨b, eb, nb, _⟩ := r
    cases eb
    exact absurd z nb
  | ref d => exact R.lent_in (Lent.of g ⟨i, d, e, e1⟩)
  | exc _ _ _ => cases hm
theorem Go.given (R : Rep K Mi σ H δ) {p : Addr} {d : D} (g : Go K Mi (plus Mi p) σ H δ σ' H' δ') (n : H p = none) (c : Cont K (msk (plus Mi p) σ' δ') H' p d) : Dat K (msk Mi σ' δ') H' d (.ref p) := by
  have m : Mv (msk (plus Mi p) σ' δ') H' (msk Mi σ' δ') H' := Mv.shrink fun a z => z.elim (fun z => .inl (.inl z)) .inr
  refine (c.mv m rfl).dat fun z => ?_
  rcases z with z | z
  · exact R.dom p z n
  · exact g.rep.own_out z (.inr rfl)

/-! ### stores to a slot -/
def isRef : Option (Option Cell) → Bool
  | some (some (.ref _)) => true
  | _ => false
theorem get_set_some {α : Type} {l : List α} {i j : Nat} {x y : α} (h : (l.set i x)[j]? = some y) : (j = i ∧ y = x ∧ i < l.length) ∨ (j ≠ i ∧ l[j]? = some y) := by
  by_cases e : i = j
  · subst e
    rw [List.getElem?_set] at h
    simp only [if_true] at h
    split at h
    · rename_i hl
      exact .inl ⟨rfl, (Option.some.inj h).symm, hl⟩
    · cases h
  · rw [List.getElem?_set_ne e] at h
    exact .inr ⟨fun z => e z.symm, h⟩
theorem Go.store (R : Rep K Mi σ H δ) {i : Nat} {v : V} {d : D} (hi : i < δ.length) (nr : isRef δ[i]? = false) (dv : Dat K (msk Mi σ δ) H d v) :
    Go K Mi Mi σ H δ (σ.set i (some v)) H (δ.set i (some (.val d))) := by
  have own_ : ∀ b, Owned (σ.set i (some v)) (δ.set i (some (.val d))) b → Owned σ δ b := fun b ⟨j, d', e1, e2⟩ => by
    rcases get_set_some e1 with ⟨_, z, _⟩ | ⟨ne, z⟩
    · cases z
    · rw [List.getElem?_set_ne (Ne.symm ne)] at e2
      exact ⟨j, d', z, e2⟩
  have m : Mv (msk Mi σ δ) H (msk Mi (σ.set i (some v)) (δ.set i (some (.val d)))) H := Mv.shrink fun a z => z.elim .inl fun z => .inr (own_ a z)
  refine ⟨⟨by rw [List.length_set, List.length_set]; exact R.len, fun j c e => ?_, fun j k c c' b ne e1 e2 m1 m2 s1 s2 => ?_, R.dom⟩, fun _ _ _ _ e => e, fun a h => .inl (own_ a h), fun j h => ?_, fun j ⟨d', e⟩ => ?_, fun _ h => h⟩
  · rcases get_set_some e with ⟨rfl, z, _⟩ | ⟨ne, z⟩
    · cases z
      refine ⟨v, ?_, Dat.mv m dv⟩
      rw [List.getElem?_set_self (Nat.lt_of_lt_of_le hi R.len)]
    · obtain ⟨u, eu, r⟩ := R.cell j c z
      refine ⟨u, ?_, r.mv m (fun _ _ _ _ _ z => z) (fun _ _ z _ => z) fun _ _ _ => rfl⟩
      rw [List.getElem?_set_ne (Ne.symm ne)]
      exact eu
  · rcases get_set_some e1 with ⟨_, z, _⟩ | ⟨ne1, z1⟩
    · cases z
      cases m1
    · rcases get_set_some e2 with ⟨_, z, _⟩ | ⟨ne2, z2⟩
      · cases z
        cases m2
      · rw [List.getElem?_set_ne (Ne.symm ne1)] at s1
        rw [List.getElem?_set_ne (Ne.symm ne2)] at s2
        exact R.sep j k c c' b ne z1 z2 m1 m2 s1 s2
  · obtain ⟨d', e⟩ := h
    have ne : i ≠ j := fun z => by
      subst z
      rw [e] at nr
      cases nr
    rw [List.getElem?_set_ne ne, List.getElem?_set_ne ne]
    exact ⟨rfl, d', e⟩
  · rcases get_set_some e with ⟨_, z, _⟩ | ⟨_, z⟩
    · cases z
    · exact ⟨d', z⟩
theorem Go.storeOwn (R : Rep K Mi σ H δ) {i : Nat} {p : Addr} {d : D} (g : Go K Mi (plus Mi p) σ H δ σ H' δ') (n : H p = none) (c : Cont K (msk (plus Mi p) σ δ') H' p d) (hi : i < δ'.length) (nr : isRef δ'[i]? = false) :
    Go K Mi Mi σ H δ (σ.set i (some (.ref p))) H' (δ'.set i (some (.own d))) := by
  have hiσ : i < σ.length := Nat.lt_of_lt_of_le hi g.rep.len
  have own_ : ∀ b, Owned (σ.set i (some (.ref p))) (δ'.set i (some (.own d))) b → Owned σ δ' b ∨ b = p := fun b ⟨j, d', e1, e2⟩ => by
    rcases get_set_some e1 with ⟨rfl, z, _⟩ | ⟨ne, z⟩
    · rw [List.getElem?_set_self hiσ] at e2
      cases e2
      exact .inr rfl
    · rw [List.getElem?_set_ne (Ne.symm ne)] at e2
      exact .inl ⟨j, d', z, e2⟩
  have m : Mv (msk (plus Mi p) σ δ') H' (msk Mi (σ.set i (some (.ref p))) (δ'.set i (some (.own d)))) H' := Mv.shrink fun a z => by
    rcases z with z | z
    · exact .inl (.inl z)
    · rcases own_ a z with z | z
      · exact .inr z
      · exact .inl (.inr z)
  have np : ¬ Mi p := fun z => R.dom p z n
  have other : ∀ j c, j ≠ i → δ'[j]? = some (some c) → c.isMut = true → σ[j]? ≠ some (some (.ref p)) := fun j c ne e hm s => by
    obtain ⟨u, eu, r⟩ := g.rep.cell j c e
    rw [s] at eu
    cases eu
    cases c with
    | val d => cases hm
    | own d =>
      obtain ⟨b, eb, nb, _⟩ := r
      cases eb
      exact nb (.inr rfl)
    | ref d => exact np (R.lent_in (Lent.of g ⟨j, d, e, s⟩))
    | exc _ _ _ => cases hm
  refine ⟨⟨by rw [List.length_set, List.length_set]; exact g.rep.len, fun j c' e => ?_, fun j k c1 c2 b ne e1 e2 m1 m2 s1 s2 => ?_, fun a z => g.rep.dom a (.inl z)⟩, g.stab, fun a h => ?_, fun j h => ?_, fun j ⟨d', e⟩ => ?_, g.trk⟩
  · rcases get_set_some e with ⟨rfl, z, _⟩ | ⟨ne, z⟩
    · cases z
      refine ⟨.ref p, List.getElem?_set_self hiσ, p, rfl, np, c.mv m rfl⟩
    · obtain ⟨u, eu, r⟩ := g.rep.cell j c' z
      refine ⟨u, ?_, r.mv m (fun _ _ _ _ _ z y => z (.inl y)) (fun a hm z ev => ?_) fun _ _ _ => rfl⟩
      · rw [List.getElem?_set_ne (Ne.symm ne)]
        exact eu
      · subst ev
        exact z.elim id fun w => absurd (w ▸ eu) (other j c' ne ‹_› hm)
  · rcases get_set_some e1 with ⟨rfl, z, _⟩ | ⟨ne1, z1⟩
    · rw [List.getElem?_set_self hiσ] at s1
      cases s1
      rcases get_set_some e2 with ⟨z, _, _⟩ | ⟨ne2, z2⟩
      · exact ne z.symm
      · rw [List.getElem?_set_ne (Ne.symm ne2)] at s2
        exact other k c2 ne2 z2 m2 s2
    · rw [List.getElem?_set_ne (Ne.symm ne1)] at s1
      rcases get_set_some e2 with ⟨rfl, z, _⟩ | ⟨ne2, z2⟩
      · rw [List.getElem?_set_self hiσ] at s2
        cases s2
        exact other j c1 ne1 z1 m1 s1
      · rw [List.getElem?_set_ne (Ne.symm ne2)] at s2
        exact g.rep.sep j k c1 c2 b ne z1 z2 m1 m2 s1 s2
  · rcases own_ a h with z | z
    · exact g.own a z
    · subst z
      exact .inr n
  · obtain ⟨q, d', e⟩ := g.lent j h
    have ne : i ≠ j := fun z => by
      subst z
      rw [e] at nr
      cases nr
    rw [List.getElem?_set_ne ne, List.getElem?_set_ne ne]
    exact ⟨rfl, d', e⟩
  · rcases get_set_some e with ⟨_, z, _⟩ | ⟨_, z⟩
    · cases z
    · exact g.lentB j ⟨d', z⟩
def upCell : Cell → D → Cell
  | .own _, d => .own d
  | _, d => .ref d
/-- an owned container, or one that is lent, is changed in place -/
theorem Go.write (R : Rep K Mi σ H δ) {i : Nat} {p : Addr} {o : HO} {d d' : D} {c : Cell} (e : δ[i]? = some (some c)) (hc : (c = .own d) ∨ (c = .ref d)) (s : σ[i]? = some (some (.ref p)))
    (ct : Cont K (msk Mi σ δ) (upd H p o) p d') : Go K Mi Mi σ H δ σ (upd H p o) (δ.set i (some (upCell c d'))) := by
  have hi : i < δ.length := (List.getElem?_eq_some_iff.mp e).1
  have hm : c.isMut = true := by
    rcases hc with z | z <;> (subst z; rfl)
  have here : msk Mi σ δ p := by
    obtain ⟨u, eu, r⟩ := R.cell i c e
    rw [s] at eu
    cases eu
    rcases hc with z | z
    · subst z
      exact .inr ⟨i, d, e, s⟩
    · subst z
      obtain ⟨b, eb, mb, _⟩ := r
      cases eb
      exact .inl mb
  have tr : ∃ u, H p = some u := by
    cases q : H p with
    | none => exact absurd q (R.dom' here)
    | some u => exact ⟨u, rfl⟩
  have own_ : ∀ b, Owned σ (δ.set i (some (upCell c d'))) b ↔ Owned σ δ b := fun b => by
    constructor
    · rintro ⟨j, d2, e1, e2⟩
      rcases get_set_some e1 with ⟨rfl, z, _⟩ | ⟨ne, z⟩
      · rcases hc with y | y
        · subst y
          exact ⟨_, d, e, e2⟩
        · subst y
          cases z
      · exact ⟨j, d2, z, e2⟩
    · rintro ⟨j, d2, e1, e2⟩
      by_cases q : j = i
      · subst q
        rw [e] at e1
        cases e1
        exact ⟨j, d', List.getElem?_set_self hi, e2⟩
      · refine ⟨j, d2, ?_, e2⟩
        rw [List.getElem?_set_ne (Ne.symm q)]
        exact e1
  have mk : msk Mi σ (δ.set i (some (upCell c d'))) = msk Mi σ δ := by
    funext b
    exact propext ⟨fun z => z.elim .inl fun z => .inr ((own_ b).mp z), fun z => z.elim .inl fun z => .inr ((own_ b).mpr z)⟩
  have m : Mv (msk Mi σ δ) H (msk Mi σ δ) (upd H p o) := fun a u n q => ⟨n, by
    rw [upd_ne (b := a) fun z => n (by rw [z]; exact here)]
    exact q⟩
  have isOwn : Owned σ δ p ∨ Lent σ δ p := by
    rcases hc with z | z
    · subst z
      exact .inl ⟨i, d, e, s⟩
    · subst z
      exact .inr ⟨i, d, e, s⟩
  refine ⟨⟨by rw [List.length_set]; exact R.len, fun j c' e' => ?_, fun j k c1 c2 b ne e1 e2 m1 m2 s1 s2 => ?_, fun a z q => R.dom a z (trk_upd a q)⟩, fun a u n1 n2 q => ?_, fun a h => .inl ((own_ a).mp h), fun j ⟨d2, q⟩ => ?_, fun j ⟨d2, q⟩ => ?_, trk_upd⟩
  · rw [mk]
    rcases get_set_some e' with ⟨rfl, z, _⟩ | ⟨ne, z⟩
    · refine ⟨.ref p, s, ?_⟩
      obtain ⟨u, eu, r⟩ := R.cell j c e
      rw [s] at eu
      cases eu
      rcases hc with y | y
      · subst y
        cases z
        obtain ⟨b, eb, nb, _⟩ := r
        cases eb
        exact ⟨p, rfl, nb, ct⟩
      · subst y
        cases z
        obtain ⟨b, eb, nb, _⟩ := r
        cases eb
        exact ⟨p, rfl, nb, ct⟩
    · obtain ⟨u, eu, r⟩ := R.cell j c' z
      refine ⟨u, eu, r.mv m (fun _ _ _ _ _ z => z) (fun _ _ z _ => z) fun a hm' ev => ?_⟩
      subst ev
      refine upd_ne fun q => ?_
      subst q
      exact R.sep j i c' c a ne z e hm' hm eu s
  · have back : ∀ {j : Nat} {c1 : Cell}, (δ.set i (some (upCell c d')))[j]? = some (some c1) → c1.isMut = true → ∃ c0 : Cell, δ[j]? = some (some c0) ∧ c0.isMut = true := fun {j c1} q mq => by
      rcases get_set_some q with ⟨rfl, z, _⟩ | ⟨_, z⟩
      · exact ⟨c, e, hm⟩
      · exact ⟨c1, z, mq⟩
    obtain ⟨c3, q3, m3⟩ := back e1 m1
    obtain ⟨c4, q4, m4⟩ := back e2 m2
    exact R.sep j k c3 c4 b ne q3 q4 m3 m4 s1 s2
  · rw [upd_ne (b := a) fun z => isOwn.elim (fun y => n1 (by rw [z]; exact y)) fun y => n2 (by rw [z]; exact y)]
    exact q
  · refine ⟨rfl, ?_⟩
    by_cases z : j = i
    · subst z
      rw [e] at q
      cases q
      exact ⟨d', List.getElem?_set_self hi⟩
    · refine ⟨d2, ?_⟩
      rw [List.getElem?_set_ne (Ne.symm z)]
      exact q
  · rcases get_set_some q with ⟨rfl, z, _⟩ | ⟨_, z⟩
    · rcases hc with y | y
      · subst y
        cases z
      · subst y
        exact ⟨d, e⟩
    · exact ⟨d2, z⟩
end
end Dl

set_option Elab.async false
set_option linter.all false
set_option maxRecDepth 100000
namespace Dl
open PySem PySem.Spec PyProof.Rows L2

/-! ### new containers as results -/
def RunN (X : Cx) (W : WX) (Mi : Msk) (σ : St) (H : Hp) (δ : DEnv) (r : R D) (Q : VK) : Prop :=
  match r with
  | .ok d δ' => ∀ a H', Go X.K Mi (plus Mi a) σ H δ σ H' δ' → H a = none → Cont X.K (msk (plus Mi a) σ δ') H' a d → Q (.ref a) H'
  | .err x δ' => ErrTo X W Mi σ H δ x δ'
  | .bad => False
def tN (X : Cx) (W : WX) (F : Fe D) : TE := fun σ H Q => ∃ Mi δ, Rep X.K Mi σ H δ ∧ RunN X W Mi σ H δ (F δ) Q
/-- e makes a new container, F's datum -/
def DO (X : Cx) (W : WX) (e : Expr) (F : Fe D) : Prop := PE X e (tN X W F)

/-! ### statements -/
inductive RS where
  | next (δ : DEnv)
  | ret (c : Cell) (δ : DEnv)
  | brk (δ : DEnv)
  | cont (δ : DEnv)
  | err (x : Exn) (δ : DEnv)
  | bad
abbrev Fs := DEnv → RS
def R.bindS {α : Type} : R α → (α → DEnv → RS) → RS
  | .ok a δ, g => g a δ
  | .err x δ, _ => .err x δ
  | .bad, _ => .bad
def RunS (X : Cx) (W : WX) (Mi : Msk) (σ : St) (H : Hp) (δ : DEnv) (r : RS) (E : Ends) : Prop :=
  match r with
  | .next δ' => ∀ σ' H', Go X.K Mi Mi σ H δ σ' H' δ' → E.nx σ' H'
  | .ret (.val d) δ' => ∀ v σ' H', Go X.K Mi Mi σ H δ σ' H' δ' → Dat X.K (msk Mi σ' δ') H' d v → E.rt v H'
  | .ret (.own d) δ' => ∀ a σ' H', Go X.K Mi (plus Mi a) σ H δ σ' H' δ' → (Owned σ δ a ∨ H a = none) → Cont X.K (msk (plus Mi a) σ' δ') H' a d → E.rt (.ref a) H'
  | .ret _ _ => False
  | .brk δ' => ∀ σ' H', Go X.K Mi Mi σ H δ σ' H' δ' → E.bk σ' H'
  | .cont δ' => ∀ σ' H', Go X.K Mi Mi σ H δ σ' H' δ' → E.ct σ' H'
  | .err x δ' => ErrTo X W Mi σ H δ x δ'
  | .bad => False
def tS (X : Cx) (W : WX) (F : Fs) : TS := fun E σ H => ∃ Mi δ, Rep X.K Mi σ H δ ∧ RunS X W Mi σ H δ (F δ) E
def DS (X : Cx) (W : WX) (st : Stmt) (F : Fs) : Prop := PS X st (tS X W F)
def DSs (X : Cx) (W : WX) (sts : List Stmt) (F : Fs) : Prop := PSs X sts (tS X W F)

section
variable {X : Cx} {W : WX} {Mi : Msk} {σ σ1 : St} {H H1 : Hp} {δ δ1 : DEnv}
theorem RunN.go {r : R D} {Q : VK} (g : Go X.K Mi Mi σ H δ σ H1 δ1) (h : RunN X W Mi σ H δ r Q) : RunN X W Mi σ H1 δ1 r Q := by
  cases r with
  | ok a δ' => exact fun a H' g' n c => h a H' (g.trans g') (g.trk a n) c
  | err x δ' => exact ErrTo.go g h
  | bad => exact h
theorem RunN.bind {α β : Type} {P : Rl α β} {r : R α} {G : α → DEnv → R D} {Q : VK} (h : RunN X W Mi σ H δ (r.bind G) Q) :
    RunG X W P Mi σ H δ r fun v H1 => ∃ a δ1, Go X.K Mi Mi σ H δ σ H1 δ1 ∧ P Mi a σ δ1 H1 v ∧ RunN X W Mi σ H1 δ1 (G a δ1) Q := by
  cases r with
  | ok a δ' => exact fun v H' g' p => ⟨a, δ', g', p, RunN.go g' h⟩
  | err x δ' => exact h
  | bad => exact h
theorem tN_bind {α β : Type} {P : Rl α β} {F : Fe α} {G : α → DEnv → R D} {Q : VK} (h : tN X W (fun δ => (F δ).bind G) σ H Q) :
    tG X W P F σ H fun v H1 => ∃ Mi a δ1, Rep X.K Mi σ H1 δ1 ∧ P Mi a σ δ1 H1 v ∧ RunN X W Mi σ H1 δ1 (G a δ1) Q := by
  obtain ⟨Mi, δ, R, h⟩ := h
  exact ⟨Mi, δ, R, h.bind.imp fun v H' ⟨a, δ1, g, p, r⟩ => ⟨Mi, a, δ1, g.rep, p, r⟩⟩
/-- a new container may be shared at once -/
theorem de_do {e : Expr} {F : Fe D} (h : DO X W e F) : DE X W e F := by
  refine PE.imp h fun σ H Q ⟨Mi, δ, R, q⟩ => ⟨Mi, δ, R, ?_⟩
  cases e : F δ with
  | ok d δ' =>
    rw [e] at q
    exact fun a H' g n c => q (.ref a) H' (g.drop R n) (g.given R n c)
  | err x δ' =>
    rw [e] at q
    exact q
  | bad =>
    rw [e] at q
    exact q
/-- a new list at p -/
theorem RunN.lst {δ' : DEnv} {Q : VK} {ds : List D} {xs : List V} (R : Rep X.K Mi σ H δ) (h : RunN X W Mi σ H δ (.ok (.list ds) δ) Q) (r : DatAll X.K (msk Mi σ δ) H ds xs) (p : Addr) (n : H p = none) : Q (.ref p) (upd H p (.lst xs)) := by
  refine h p _ (Go.new R n) n ⟨xs, upd_same, r.mv fun a u q e => ⟨fun z => ?_, Al.new n a u e⟩⟩
  rcases z with (z | z) | z
  · exact q (.inl z)
  · subst z
    rw [n] at e
    cases e
  · exact q (.inr z)
theorem do_lst {es : List Expr} {F : Fe (List D)} {pos} (h : DA X W es F) : DO X W (.List es pos) (fLst F) := by
  refine PE.imp (pe_lst h) fun σ H Q q => ?_
  obtain ⟨Mi, δ, R, q⟩ := tN_bind (P := pA X) q
  refine ⟨Mi, δ, R, q.imp fun vs H1 ⟨Mi, ds, δ1, R1, p, r⟩ => ?_⟩
  have p' : DatAll X.K (msk Mi σ δ1) H1 ds vs := p
  unfold okLen at r
  split at r
  · rename_i hl
    exact ⟨lenLine (by rw [p'.length]; exact hl), fun b nb => RunN.lst (δ' := δ1) R1 r p' b nb⟩
  · exact False.elim r

theorem RunS.go {r : RS} {E : Ends} (g : Go X.K Mi Mi σ H δ σ1 H1 δ1) (h : RunS X W Mi σ H δ r E) : RunS X W Mi σ1 H1 δ1 r E := by
  cases r with
  | next δ' => exact fun σ' H' g' => h σ' H' (g.trans g')
  | ret c δ' =>
    cases c with
    | val d => exact fun v σ' H' g' p => h v σ' H' (g.trans g') p
    | own d =>
      refine fun a σ' H' g' n p => h a σ' H' (g.trans g') ?_ p
      rcases n with n | n
      · exact g.own a n
      · exact .inr (g.trk a n)
    | ref d => exact h
    | exc _ _ _ => exact h
  | brk δ' => exact fun σ' H' g' => h σ' H' (g.trans g')
  | cont δ' => exact fun σ' H' g' => h σ' H' (g.trans g')
  | err x δ' => exact fun cls dd σ' H' c g' e => h cls dd σ' H' c (g.trans g') e
  | bad => exact h
theorem RunS.bind {α β : Type} {P : Rl α β} {r : R α} {G : α → DEnv → RS} {E : Ends} (h : RunS X W Mi σ H δ (r.bindS G) E) :
    RunG X W P Mi σ H δ r fun v H1 => ∃ a δ1, Go X.K Mi Mi σ H δ σ H1 δ1 ∧ P Mi a σ δ1 H1 v ∧ RunS X W Mi σ H1 δ1 (G a δ1) E := by
  cases r with
  | ok a δ' => exact fun v H' g' p => ⟨a, δ', g', p, RunS.go g' h⟩
  | err x δ' => exact h
  | bad => exact h
theorem tS_bind {α β : Type} {P : Rl α β} {F : Fe α} {G : α → DEnv → RS} {E : Ends} (h : tS X W (fun δ => (F δ).bindS G) E σ H) :
    tG X W P F σ H fun v H1 => ∃ Mi a δ1, Rep X.K Mi σ H1 δ1 ∧ P Mi a σ δ1 H1 v ∧ RunS X W Mi σ H1 δ1 (G a δ1) E := by
  obtain ⟨Mi, δ, R, h⟩ := h
  exact ⟨Mi, δ, R, h.bind.imp fun v H' ⟨a, δ1, g, p, r⟩ => ⟨Mi, a, δ1, g.rep, p, r⟩⟩
theorem RunS.nx {E : Ends} {δ' : DEnv} (R : Rep X.K Mi σ H δ) (h : RunS X W Mi σ H δ (.next δ) E) : E.nx σ H := h σ H (Go.refl R)

def sNext : Fs := fun δ => .next δ
/-- one behind another -/
def sSeq (F G : Fs) : Fs := fun δ =>
  match F δ with
  | .next δ' => G δ'
  | r => r
theorem ds_nil : DSs X W [] sNext := PSs.imp pss_nil fun σ H E ⟨Mi, δ, R, h⟩ => h σ H (Go.refl R)
theorem RunS.ends {r : RS} {E E' : Ends} (h : RunS X W Mi σ H δ r E) (h1 : ∀ σ' H', E.nx σ' H' → E'.nx σ' H') (h2 : ∀ v H', E.rt v H' → E'.rt v H') (h3 : ∀ σ' H', E.bk σ' H' → E'.bk σ' H') (h4 : ∀ σ' H', E.ct σ' H' → E'.ct σ' H') : RunS X W Mi σ H δ r E' := by
  cases r with
  | next δ' => exact fun σ' H' g' => h1 _ _ (h σ' H' g')
  | ret c δ' =>
    cases c with
    | val d => exact fun v σ' H' g' p => h2 _ _ (h v σ' H' g' p)
    | own d => exact fun a σ' H' g' n p => h2 _ _ (h a σ' H' g' n p)
    | ref d => exact h
    | exc _ _ _ => exact h
  | brk δ' => exact fun σ' H' g' => h3 _ _ (h σ' H' g')
  | cont δ' => exact fun σ' H' g' => h4 _ _ (h σ' H' g')
  | err x δ' => exact h
  | bad => exact h
/-- the first part of a run; what follows is run from there -/
theorem RunS.seq {r : RS} {G : Fs} {E : Ends} (h : RunS X W Mi σ H δ (match r with | .next δ' => G δ' | r => r) E) : RunS X W Mi σ H δ r { E with nx := tS X W G E } := by
  cases r with
  | next δ' => exact fun σ' H' g' => ⟨Mi, δ', g'.rep, RunS.go g' h⟩
  | ret c δ' =>
    cases c with
    | val d => exact h
    | own d => exact h
    | ref d => exact h
    | exc _ _ _ => exact h
  | brk δ' => exact h
  | cont δ' => exact h
  | err x δ' => exact h
  | bad => exact h
variable {st : Stmt} {rest body orelse : List Stmt} {F G : Fs} {pos : Pos} {e : Expr} {Fv : Fe D}
theorem ds_cons (h : DS X W st F) (t : DSs X W rest G) : DSs X W (st :: rest) (sSeq F G) :=
  PSs.imp (pss_cons h t) fun σ H E ⟨Mi, δ, R, q⟩ => ⟨Mi, δ, R, RunS.seq q⟩
theorem ds_one (h : DS X W st F) : DSs X W [st] F := pss_one h
def sDrop (F : Fe D) : Fs := fun δ => (F δ).bindS fun _ δ1 => .next δ1
theorem ds_expr (h : DE X W e Fv) (hs : swapsWith e none pos.line X.env = pure false := by rfl) : DS X W (.Expr e pos) (sDrop Fv) := by
  refine PS.imp (ps_expr h hs) fun σ H E q => ?_
  obtain ⟨Mi, δ, R, q⟩ := tS_bind (P := pD X) q
  exact ⟨Mi, δ, R, q.imp fun v H1 ⟨Mi, d, δ1, R1, p, r⟩ => RunS.nx (δ' := δ1) R1 r⟩
theorem ds_doc {x : Str} {j pos pos'} : DS X W (.Expr (.Constant (.str x) j pos) pos') sNext := PS.imp ps_doc fun σ H E ⟨Mi, δ, R, h⟩ => h σ H (Go.refl R)
theorem ds_pass : DS X W (.Pass pos) sNext := PS.imp ps_pass fun σ H E ⟨Mi, δ, R, h⟩ => h σ H (Go.refl R)
theorem ds_brk : DS X W (.Break pos) (fun δ => .brk δ) := PS.imp ps_break fun σ H E ⟨Mi, δ, R, h⟩ => h σ H (Go.refl R)
theorem ds_cont : DS X W (.Continue pos) (fun δ => .cont δ) := PS.imp ps_continue fun σ H E ⟨Mi, δ, R, h⟩ => h σ H (Go.refl R)
def sBad : Fs := fun _ => .bad
theorem ds_never : DS X W st sBad := PS.imp ps_never fun σ H E ⟨Mi, δ, R, h⟩ => h.elim
theorem dss_never : DSs X W rest sBad := PSs.imp pss_never fun σ H E ⟨Mi, δ, R, h⟩ => h.elim
def sRet (F : Fe D) : Fs := fun δ => (F δ).bindS fun d δ1 => .ret (.val d) δ1
theorem ds_ret (h : DE X W e Fv) : DS X W (.Return (some e) pos) (sRet Fv) := by
  refine PS.imp (ps_ret h) fun σ H E q => ?_
  obtain ⟨Mi, δ, R, q⟩ := tS_bind (P := pD X) q
  exact ⟨Mi, δ, R, q.imp fun v H1 ⟨Mi, d, δ1, R1, p, r⟩ => r v σ H1 (Go.refl R1) p⟩
def sRetO (F : Fe D) : Fs := fun δ => (F δ).bindS fun d δ1 => .ret (.own d) δ1
theorem ds_retO (h : DO X W e Fv) : DS X W (.Return (some e) pos) (sRetO Fv) := by
  refine PS.imp (ps_ret h) fun σ H E ⟨Mi, δ, R, q⟩ => ⟨Mi, δ, R, ?_⟩
  unfold sRetO at q
  cases ef : Fv δ with
  | ok d δ' =>
    rw [ef] at q
    exact fun a H' g n c => q a σ H' g (.inr n) c
  | err x δ' =>
    rw [ef] at q
    exact q
  | bad =>
    rw [ef] at q
    exact q
def sRetN : Fs := fun δ => .ret (.val .none) δ
theorem ds_retN : DS X W (.Return none pos) sRetN := PS.imp ps_retN fun σ H E ⟨Mi, δ, R, h⟩ => h .non σ H (Go.refl R) Dat.mkNone
/-- a slot is handed back: what was its own is the caller's -/
def sRetV (i : Nat) : Fs := fun δ =>
  match δ[i]? with
  | some (some (.val d)) => .ret (.val d) δ
  | some (some (.own d)) => .ret (.own d) (δ.set i none)
  | _ => .bad
theorem Go.release {K : PySem.W.Frag} {i : Nat} {a : Addr} {d : D} (R : Rep K Mi σ H δ) (e : δ[i]? = some (some (.own d))) (s : σ[i]? = some (some (.ref a))) :
    Go K Mi (plus Mi a) σ H δ σ H (δ.set i none) ∧ Cont K (msk (plus Mi a) σ (δ.set i none)) H a d := by
  obtain ⟨v, ev, b, rfl, nb, ct⟩ := R.cell i _ e
  rw [s] at ev
  cases ev
  have back : ∀ {j : Nat} {c : Cell}, (δ.set i none)[j]? = some (some c) → j ≠ i ∧ δ[j]? = some (some c) := fun {j c} q => by
    rcases get_set_some q with ⟨_, z, _⟩ | z
    · cases z
    · exact z
  have own_ : ∀ b, Owned σ (δ.set i none) b → Owned σ δ b := fun b ⟨j, d', e1, e2⟩ => ⟨j, d', (back e1).2, e2⟩
  have m : Mv (msk Mi σ δ) H (msk (plus Mi a) σ (δ.set i none)) H := Mv.shrink fun b z => by
    rcases z with (z | z) | z
    · exact .inl z
    · subst z
      exact .inr ⟨i, d, e, s⟩
    · exact .inr (own_ b z)
  have sep_ : ∀ (j : Nat) (c : Cell), (δ.set i none)[j]? = some (some c) → c.isMut = true → σ[j]? ≠ some (some (V.ref a)) := fun j c q hm z => R.sep j i c _ a (back q).1 (back q).2 e hm rfl z s
  refine ⟨⟨⟨by rw [List.length_set]; exact R.len, fun j c q => ?_, fun j k c c' b ne q1 q2 => R.sep j k c c' b ne (back q1).2 (back q2).2, fun b z => ?_⟩, fun _ _ _ _ q => q, fun b z => .inl (own_ b z), fun j ⟨d', q⟩ => ⟨rfl, d', ?_⟩, fun j ⟨d', q⟩ => ⟨d', (back q).2⟩, fun _ h => h⟩, ct.mv m rfl⟩
  · obtain ⟨u, eu, r⟩ := R.cell j c (back q).2
    exact ⟨u, eu, r.mv m (fun b o hm ev _ z y => y.elim z fun w => sep_ j c q hm (by rw [eu, ev, w])) (fun _ _ z _ => .inl z) fun _ _ _ => rfl⟩
  · rcases z with z | z
    · exact R.dom b z
    · subst z
      obtain ⟨o, eo⟩ := ct.some
      rw [eo]
      exact Option.some_ne_none _
  · rw [List.getElem?_set_ne (fun z => by
      subst z
      rw [e] at q
      cases q)]
    exact q
end
end Dl

set_option Elab.async false
set_option linter.all false
set_option maxRecDepth 100000
namespace Dl
open PySem PySem.Spec PyProof.Rows L2
section
variable {X : Cx} {W : WX} {Mi : Msk} {σ σ1 : St} {H H1 : Hp} {δ δ1 : DEnv} {st : Stmt} {rest body orelse : List Stmt} {F G : Fs} {pos : Pos} {e : Expr} {Fv : Fe D}

theorem ds_retV {i : Nat} {x : Str} {p : Pos} (hN : X.N[i]? = some x) (hv : Vis X.env.scope x) (hd : (x == ("__debug__" : Str)) = false := by decide +kernel) (hcd : (x == ("__classdict__" : Str)) = false := by decide +kernel) : DS X W (.Return (some (.Name x p)) pos) (sRetV i) := by
  refine PS.imp (ps_ret (pe_var hN hv hd hcd)) fun σ H E ⟨Mi, δ, R, q⟩ => ?_
  unfold sRetV at q
  split at q
  · rename_i d e
    obtain ⟨v, ev, r⟩ := R.cell i _ e
    exact ⟨v, ev, q v σ H (Go.refl R) r⟩
  · rename_i d e
    obtain ⟨v, ev, a, rfl, _⟩ := R.cell i _ e
    obtain ⟨g, c⟩ := Go.release R e ev
    exact ⟨_, ev, q a σ H g (.inl ⟨i, d, e, ev⟩) c⟩
  · exact q.elim

/-! ### assignment -/
/-- a slot may be stored to -/
def free (δ : DEnv) (i : Nat) : Bool := decide (i < δ.length) && !isRef δ[i]?
theorem free_un {i : Nat} (h : free δ i = true) : i < δ.length ∧ isRef δ[i]? = false := by
  unfold free at h
  simp only [Bool.and_eq_true, decide_eq_true_eq, Bool.not_eq_true'] at h
  exact h
def sSet (i : Nat) (F : Fe D) : Fs := fun δ => (F δ).bindS fun d δ1 => if free δ1 i = true then .next (δ1.set i (some (.val d))) else .bad
theorem ds_set {i : Nat} {x : Str} {p : Pos} (hN : X.N.Nodup) (hi : X.N[i]? = some x) (hx : Loc X.env.scope x) (h : DE X W e Fv) (hs : swapsWith e (some (.Name x p)) pos.line X.env = pure false := by rfl) (hf : X.fn x = true ∨ X.env.scope.names.lookup x = some .local := by first | exact .inl rfl | exact .inr rfl | assumption) :
    DS X W (.Assign [.Name x p] e pos) (sSet i Fv) := by
  refine PS.imp (ps_set hN hi hx h hs hf) fun σ H E q => ?_
  obtain ⟨Mi, δ, R, q⟩ := tS_bind (P := pD X) q
  refine ⟨Mi, δ, R, q.imp fun v H1 ⟨Mi, d, δ1, R1, p, r⟩ => ?_⟩
  split at r
  · rename_i hf
    obtain ⟨h1, h2⟩ := free_un hf
    exact r _ _ (Go.store R1 h1 h2 p)
  · exact False.elim r
def sSetO (i : Nat) (F : Fe D) : Fs := fun δ => (F δ).bindS fun d δ1 => if free δ1 i = true then .next (δ1.set i (some (.own d))) else .bad
theorem setO_rd {i : Nat} {E : Ends} (q : tS X W (sSetO i Fv) E σ H) : tN X W Fv σ H fun v H1 => E.nx (σ.set i (some v)) H1 := by
  obtain ⟨Mi, δ, R, q⟩ := q
  refine ⟨Mi, δ, R, ?_⟩
  unfold sSetO at q
  cases ef : Fv δ with
  | ok d δ' =>
    rw [ef] at q
    have q' : RunS X W Mi σ H δ (if free δ' i = true then .next (δ'.set i (some (.own d))) else .bad) E := q
    split at q'
    · rename_i hf
      obtain ⟨h1, h2⟩ := free_un hf
      exact fun a H' g n c => q' _ _ (Go.storeOwn R g n c h1 h2)
    · exact q'.elim
  | err x δ' =>
    rw [ef] at q
    exact q
  | bad =>
    rw [ef] at q
    exact q
theorem ds_setO {i : Nat} {x : Str} {p : Pos} (hN : X.N.Nodup) (hi : X.N[i]? = some x) (hx : Loc X.env.scope x) (h : DO X W e Fv) (hs : swapsWith e (some (.Name x p)) pos.line X.env = pure false := by rfl) (hf : X.fn x = true ∨ X.env.scope.names.lookup x = some .local := by first | exact .inl rfl | exact .inr rfl | assumption) :
    DS X W (.Assign [.Name x p] e pos) (sSetO i Fv) :=
  PS.imp (ps_set hN hi hx h hs hf) fun σ H E q => setO_rd q

/-! ### targets -/
/-- what a target makes of a datum -/
abbrev Bd := D → DEnv → Option DEnv
abbrev Bds := List D → DEnv → Option DEnv
/-- the slots that a target stores to -/
def Far (sl : List Nat) (σ σ' : St) : Prop := σ'.length = σ.length ∧ ∀ j, j ∉ sl → σ'[j]? = σ[j]?
theorem Far.refl {sl : List Nat} {σ : St} : Far sl σ σ := ⟨rfl, fun _ _ => rfl⟩
def tB1 (X : Cx) (sl : List Nat) (B : Bd) : TG := fun v σ H Q => ∃ Mi d δ, Rep X.K Mi σ H δ ∧ Dat X.K (msk Mi σ δ) H d v ∧ ∃ δ', B d δ = some δ' ∧ ∀ σ', Go X.K Mi Mi σ H δ σ' H δ' → Far sl σ σ' → Q σ' H
def tBs (X : Cx) (sl : List Nat) (B : Bds) : TGs := fun vs σ H Q => ∃ Mi ds δ, Rep X.K Mi σ H δ ∧ DatAll X.K (msk Mi σ δ) H ds vs ∧ ∃ δ', B ds δ = some δ' ∧ ∀ σ', Go X.K Mi Mi σ H δ σ' H δ' → Far sl σ σ' → Q σ' H
def DG (X : Cx) (t : Expr) (sl : List Nat) (B : Bd) : Prop := PG X t (tB1 X sl B)
def DGs (X : Cx) (ts : List Expr) (sl : List Nat) (B : Bds) : Prop := PGs X ts (tBs X sl B)
theorem PG.imp {t : Expr} {g g' : TG} (h : PG X t g) (i : ∀ v σ H Q, g' v σ H Q → g v σ H Q) : PG X t g' := ⟨fun pins s σ H x v Q I r q => h.run pins s σ H x v Q I r (i _ _ _ _ q)⟩
theorem PGs.imp {t : List Expr} {g g' : TGs} (h : PGs X t g) (i : ∀ v σ H Q, g' v σ H Q → g v σ H Q) : PGs X t g' := ⟨fun pins s σ H x v Q I r q => h.run pins s σ H x v Q I r (i _ _ _ _ q)⟩
def bName (i : Nat) : Bd := fun d δ => if free δ i = true then some (δ.set i (some (.val d))) else none
theorem dg_name {i : Nat} {x : Str} {p : Pos} (hN : X.N.Nodup) (hi : X.N[i]? = some x) (hx : Loc X.env.scope x) (hf : X.fn x = true ∨ X.env.scope.names.lookup x = some .local := by first | exact .inl rfl | exact .inr rfl | assumption) : DG X (.Name x p) [i] (bName i) := by
  refine PG.imp (pg_name hN hi hx hf) fun v σ H Q ⟨Mi, d, δ, R, dv, δ', e, q⟩ => ?_
  unfold bName at e
  obtain ⟨hf, e⟩ := some_if e
  subst e
  obtain ⟨h1, h2⟩ := free_un hf
  exact q _ (Go.store R h1 h2 dv) ⟨List.length_set, fun j hj => List.getElem?_set_ne (fun z => hj (by simp [z]))⟩
def bNil : Bds := fun ds δ =>
  match ds with
  | [] => some δ
  | _ => none
def bCons (B : Bd) (C : Bds) : Bds := fun ds δ =>
  match ds with
  | d :: r => (B d δ).bind (C r)
  | [] => none
def bTup (n : Nat) (B : Bds) : Bd := fun d δ =>
  match d with
  | .tuple ds => if ds.length = n then B ds δ else none
  | _ => none
theorem dgs_nil : DGs X [] [] bNil := by
  refine PGs.imp pgs_nil fun v σ H Q ⟨Mi, ds, δ, R, dv, δ', e, q⟩ => ?_
  unfold bNil at e
  split at e
  · cases e
    exact ⟨dv.nil_inv, q σ (Go.refl R) .refl⟩
  · cases e
theorem dgs_cons {t : Expr} {ts : List Expr} {sl sl' : List Nat} {B : Bd} {C : Bds} (h : DG X t sl B) (hs : DGs X ts sl' C) (hp : (assignEach (t :: ts) X.env).map (fun x => x.2) = assign t X.env :: (assignEach ts X.env).map (fun x => x.2) := by rfl) : DGs X (t :: ts) (sl ++ sl') (bCons B C) := by
  refine PGs.imp (pgs_cons h hs hp) fun v σ H Q ⟨Mi, ds, δ, R, dv, δ', e, q⟩ => ?_
  unfold bCons at e
  split at e
  · rename_i d r
    obtain ⟨v1, r1, rfl, h1, h2⟩ := dv.cons_inv
    obtain ⟨δ1, e1, e2⟩ := Option.bind_eq_some_iff.mp e
    refine ⟨v1, r1, rfl, Mi, d, δ, R, h1, δ1, e1, fun σ1 g1 f1 => ⟨Mi, r, δ1, g1.rep, h2.mv (g1.mv R), δ', e2, fun σ2 g2 f2 => q σ2 (g1.trans g2) ⟨f2.1.trans f1.1, fun j hj => ?_⟩⟩⟩
    rw [f2.2 j fun z => hj (List.mem_append_right _ z), f1.2 j fun z => hj (List.mem_append_left _ z)]
  · cases e
theorem dg_tup {es : List Expr} {k n : Nat} {sl : List Nat} {B : Bds} {p : Pos} (hc : X.calm = true) (h : DGs X es sl B) (hn : (assignEach es X.env).length = n := by rfl) (hst : (assignEach es X.env).findIdx? (fun x => x.1) = none := by rfl) : DG X (.Tuple es k p) sl (bTup n B) := by
  refine PG.imp (pg_tup hc h hn hst) fun v σ H Q ⟨Mi, d, δ, R, dv, δ', e, q⟩ => ?_
  unfold bTup at e
  split at e
  · rename_i ds
    split at e
    · rename_i hl
      simp only [Dat] at dv
      obtain ⟨a, xs, rfl, l, r⟩ := dv
      exact ⟨a, xs, rfl, l.sq, by rw [r.length]; exact hl, Mi, ds, δ, R, r, δ', e, q⟩
    · cases e
  · cases e
def sAsg (F : Fe D) (B : Bd) : Fs := fun δ => (F δ).bindS fun d δ1 =>
  match B d δ1 with
  | some δ2 => .next δ2
  | none => .bad
theorem ds_asg {tg : Expr} {sl : List Nat} {B : Bd} (h : DE X W e Fv) (g : DG X tg sl B) (hs : swapsWithSole [tg] e pos.line X.env = pure false := by rfl) (hw : swappedStores [tg] e X.env = pure none := by rfl) (h1 : (assignEach [tg] X.env).map (fun x => x.2) = [assign tg X.env] := by rfl) : DS X W (.Assign [tg] e pos) (sAsg Fv B) := by
  refine PS.imp (ps_asg h g hs hw h1) fun σ H E q => ?_
  obtain ⟨Mi, δ, R, q⟩ := tS_bind (P := pD X) q
  refine ⟨Mi, δ, R, q.imp fun v H1 ⟨Mi, d, δ1, R1, p, r⟩ => ?_⟩
  split at r
  · rename_i δ2 e2
    exact ⟨Mi, d, δ1, R1, p, δ2, e2, fun σ' g _ => r σ' H1 g⟩
  · exact False.elim r
/-- a, b = e1, e2 -/
def sPar (i j : Nat) (F : Fe (List D)) : Fs := fun δ => (F δ).bindS fun ds δ1 =>
  match ds with
  | [a, b] => if free δ1 i = true ∧ free δ1 j = true ∧ i ≠ j then .next ((δ1.set i (some (.val a))).set j (some (.val b))) else .bad
  | _ => .bad
theorem free_set {i j : Nat} {c : Cell} (h : free δ j = true) (hc : isRef (some (some c)) = false) : free (δ.set i (some c)) j = true := by
  obtain ⟨h1, h2⟩ := free_un h
  unfold free
  simp only [Bool.and_eq_true, decide_eq_true_eq, Bool.not_eq_true', List.length_set]
  refine ⟨h1, ?_⟩
  rw [List.getElem?_set]
  split
  · split
    · exact hc
    · rfl
  · exact h2
theorem ds_par {i j : Nat} {Fl : Fe (List D)} (hp : PS X st (tPar i j (tG X W (pA X) Fl))) : DS X W st (sPar i j Fl) := by
  refine PS.imp hp fun σ H E q => ?_
  obtain ⟨Mi, δ, R, q⟩ := tS_bind (P := pA X) q
  refine ⟨Mi, δ, R, q.imp fun vs H1 ⟨Mi, ds, δ1, R1, p, r⟩ => ?_⟩
  split at r
  · rename_i a b
    split at r
    · rename_i hf
      obtain ⟨f1, f2, hne⟩ := hf
      have p' : DatAll X.K (msk Mi σ δ1) H1 [a, b] vs := p
      obtain ⟨v, r1, rfl, h1, h2⟩ := p'.cons_inv
      obtain ⟨w, r2, rfl, h3, h4⟩ := h2.cons_inv
      have e2 := h4.nil_inv
      subst e2
      obtain ⟨a1, a2⟩ := free_un f1
      have g1 := Go.store R1 a1 a2 h1
      obtain ⟨b1, b2⟩ := free_un (free_set (i := i) (c := .val a) f2 rfl)
      exact ⟨v, w, rfl, r _ _ (g1.trans (Go.store g1.rep b1 b2 (Dat.mv (g1.mv R1) h3)))⟩
    · exact False.elim r
  · exact False.elim r
/-- x op= e of things that are not changed -/
def sAug (i : Nat) (f : D → D → Option D) (F : Fe Opd) : Fs := fun δ => (F δ).bindS fun b δ1 =>
  match peek δ1 i, opd δ1 b with
  | some x, some y =>
    match f x y with
    | some d => if free δ1 i = true then .next (δ1.set i (some (.val d))) else .bad
    | none => .bad
  | _, _ => .bad

/-! ### if, while, for -/
def sIf (T : Fe Bool) (F G : Fs) : Fs := fun δ => (T δ).bindS fun b δ1 => if b = true then F δ1 else G δ1
theorem ds_if {c : Expr} {T : Fe Bool} (hc : DT X W c T) (ha : DSs X W body F) (hb : DSs X W orelse G) : DS X W (.If c body orelse pos) (sIf T F G) := by
  refine PS.imp (ps_if hc ha hb) fun σ H E q => ?_
  obtain ⟨Mi, δ, R, q⟩ := tS_bind (P := pB) q
  refine ⟨Mi, δ, R, q.imp fun v H1 ⟨Mi, k, δ1, R1, p, r⟩ => ?_⟩
  have e : v = k := p
  subst e
  cases v with
  | true => exact iteT ⟨Mi, δ1, R1, r⟩
  | false => exact iteF ⟨Mi, δ1, R1, r⟩
/-- a while, with a bound on its turns -/
def sWhile (T : Fe Bool) (F : Fs) : Nat → Fs
  | 0, _ => .bad
  | n + 1, δ => (T δ).bindS fun b δ1 => if b = true then (match F δ1 with
      | .next δ2 => sWhile T F n δ2
      | .cont δ2 => sWhile T F n δ2
      | .brk δ2 => .next δ2
      | r => r) else .next δ1
theorem ds_while {c : Expr} {T : Fe Bool} (n : Nat) (hp : PassesOwn (model X.prog X.w) X.A X.env X.xe) (hc : DT X W c T) (hb : DSs X W body F) : DS X W (.While c body [] pos) (sWhile T F n) := by
  refine PS.imp (ps_while hp hc hb) fun σ0 H0 E ⟨Mi, δ0, R0, q0⟩ => ?_
  refine ⟨fun m σ H => ∃ δ, Rep X.K Mi σ H δ ∧ RunS X W Mi σ H δ (sWhile T F m δ) E, ⟨n, δ0, R0, q0⟩, fun m σ H ⟨δ, R, q⟩ => ?_⟩
  cases m with
  | zero => exact q.elim
  | succ m =>
    refine ⟨Mi, δ, R, (RunS.bind (P := pB) q).imp fun v H1 ⟨k, δ1, g1, p, r⟩ => ?_⟩
    have e : v = k := p
    subst e
    cases v with
    | false =>
      refine iteF ?_
      exact RunS.nx (δ' := δ1) g1.rep r
    | true =>
      refine iteT ⟨fun σ H => ∃ δ, Rep X.K Mi σ H δ ∧ RunS X W Mi σ H δ (sWhile T F m δ) E, fun σ' H' h => ⟨m, Nat.lt_succ_self m, h⟩, Mi, δ1, g1.rep, ?_⟩
      have r' : RunS X W Mi σ H1 δ1 (match F δ1 with | .next δ2 => sWhile T F m δ2 | .cont δ2 => sWhile T F m δ2 | .brk δ2 => .next δ2 | r => r) E := r
      cases ef : F δ1 with
      | next δ2 =>
        rw [ef] at r'
        exact fun σ' H' g => ⟨δ2, g.rep, RunS.go g r'⟩
      | cont δ2 =>
        rw [ef] at r'
        exact fun σ' H' g => ⟨δ2, g.rep, RunS.go g r'⟩
      | brk δ2 =>
        rw [ef] at r'
        exact fun σ' H' g => r' σ' H' g
      | ret c δ2 =>
        rw [ef] at r'
        cases c with
        | val d => exact r'
        | own d => exact r'
        | ref d => exact r'
        | exc _ _ _ => exact r'
      | err x δ2 =>
        rw [ef] at r'
        exact r'
      | bad =>
        rw [ef] at r'
        exact r'
/-- what an iterator yields, as data; it stands still as long as what was readable is -/
def ItR (X : Cx) (M : Msk) (H : Hp) (J : It) (ds : List D) : Prop := ∀ M' H', Mv M H M' H' → (∀ a, M' a → H' a ≠ none) →
  (∀ i d, ds[i]? = some d → J.go i H' ∧ ∀ x H'', J.yld i H' x H'' → Al H' H'' ∧ Dat X.K M' H'' d x) ∧ J.stop ds.length H'
def pI (X : Cx) : Rl (List D) It := fun Mi ds σ δ H J => ItR X (msk Mi σ δ) H J ds
def DI (X : Cx) (W : WX) (tg iter : Expr) (F : Fe (List D)) : Prop := PI X tg iter (tG X W (pI X) F)
theorem PI.imp {tg iter : Expr} {w w' : TI} (h : PI X tg iter w) (i : ∀ σ H Q, w' σ H Q → w σ H Q) : PI X tg iter w' := ⟨fun pins s σ H R I q => h.run pins s σ H R I (i _ _ _ q)⟩
def itemsF : D → DEnv → R (List D)
  | .list ds, δ => .ok ds δ
  | .tuple ds, δ => .ok ds δ
  | _, _ => .bad
def iSeq (F : Fe D) : Fe (List D) := fun δ => (F δ).bind itemsF
theorem SqL.at {K : PySem.W.Frag} {M M' : Msk} {H H' : Hp} {a : Addr} {xs : List V} {ds : List D} (l : LstAt K M H a xs) (r : DatAll K M H ds xs) (m : Mv M H M' H') : SqL K H' a xs ∧ DatAll K M' H' ds xs := ⟨(l.mv m).sq, r.mv m⟩
theorem itl_R {M : Msk} {a : Addr} {xs : List V} {ds : List D} (l : LstAt X.K M H a xs) (r : DatAll X.K M H ds xs) : ItR X M H (Itl X.K a) ds := fun M' H' m dom => by
  have l' := (l.mv m).sq
  have r' := r.mv m
  refine ⟨fun i d e => ?_, ⟨xs, l', by rw [r.length]; exact Nat.le_refl _⟩⟩
  obtain ⟨v, ev, dv⟩ := r'.get e
  refine ⟨⟨xs, v, l', ev⟩, fun x H'' y => ?_⟩
  obtain ⟨e1, y⟩ := y
  subst e1
  have h := y xs l'
  rw [ev] at h
  cases h
  exact ⟨Al.refl, dv⟩
theorem itt_R {M : Msk} {a : Addr} {xs : List V} {ds : List D} (l : TupAt X.K M H a xs) (r : DatAll X.K M H ds xs) : ItR X M H (Itt X.K a) ds := fun M' H' m dom => by
  have l' := (l.mv m).sq
  have r' := r.mv m
  refine ⟨fun i d e => ?_, ⟨xs, l', by rw [r.length]; exact Nat.le_refl _⟩⟩
  obtain ⟨v, ev, dv⟩ := r'.get e
  refine ⟨⟨xs, v, l', ev⟩, fun x H'' y => ?_⟩
  obtain ⟨e1, y⟩ := y
  subst e1
  have h := y xs l'
  rw [ev] at h
  cases h
  exact ⟨Al.refl, dv⟩
def lstF : D → DEnv → R (List D)
  | .list ds, δ => .ok ds δ
  | _, _ => .bad
def tupF : D → DEnv → R (List D)
  | .tuple ds, δ => .ok ds δ
  | _, _ => .bad
def iLst (F : Fe D) : Fe (List D) := fun δ => (F δ).bind lstF
def iTpl (F : Fe D) : Fe (List D) := fun δ => (F δ).bind tupF
theorem di_list {tg iter : Expr} (h : DE X W iter Fv) : DI X W tg iter (iLst Fv) := by
  refine PI.imp (pi_list h) fun σ H Q q => ?_
  obtain ⟨Mi, δ, R, q⟩ := tG_bind (P := pD X) q
  refine ⟨Mi, δ, R, q.imp fun v H1 ⟨Mi, d, δ1, R1, p, r⟩ => ?_⟩
  have p' : Dat X.K (msk Mi σ δ1) H1 d v := p
  cases d with
  | list ds =>
    simp only [Dat] at p'
    obtain ⟨a, xs, rfl, l, rr⟩ := p'
    exact ⟨a, rfl, ⟨xs, l.sq⟩, r _ H1 (Go.refl R1) (itl_R l rr)⟩
  | none => exact False.elim r
  | bool _ => exact False.elim r
  | int _ => exact False.elim r
  | str _ => exact False.elim r
  | tuple _ => exact False.elim r
  | dict _ => exact False.elim r
theorem di_tup {tg iter : Expr} (h : DE X W iter Fv) : DI X W tg iter (iTpl Fv) := by
  refine PI.imp (pi_tup h) fun σ H Q q => ?_
  obtain ⟨Mi, δ, R, q⟩ := tG_bind (P := pD X) q
  refine ⟨Mi, δ, R, q.imp fun v H1 ⟨Mi, d, δ1, R1, p, r⟩ => ?_⟩
  have p' : Dat X.K (msk Mi σ δ1) H1 d v := p
  cases d with
  | tuple ds =>
    simp only [Dat] at p'
    obtain ⟨a, xs, rfl, l, rr⟩ := p'
    exact ⟨a, rfl, ⟨xs, l.sq⟩, r _ H1 (Go.refl R1) (itt_R l rr)⟩
  | none => exact False.elim r
  | bool _ => exact False.elim r
  | int _ => exact False.elim r
  | str _ => exact False.elim r
  | list _ => exact False.elim r
  | dict _ => exact False.elim r
/-- the ints of a range -/
def rngL (lo : Int) (n : Nat) : List D := (List.range n).map fun i => .int (lo + (i : Nat))
theorem rngL_get {lo : Int} {n i : Nat} {d : D} (e : (rngL lo n)[i]? = some d) : i < n ∧ d = .int (lo + i) := by
  unfold rngL at e
  rw [List.getElem?_map] at e
  cases h : (List.range n)[i]? with
  | none =>
    rw [h] at e
    cases e
  | some j =>
    rw [h] at e
    have hj := List.getElem?_eq_some_iff.mp h
    obtain ⟨h1, h2⟩ := hj
    rw [List.length_range] at h1
    rw [List.getElem_range] at h2
    subst h2
    exact ⟨h1, (Option.some.inj e).symm⟩
theorem itr_R {M : Msk} {lo : Int} {n : Nat} : ItR X M H (Itr lo n) (rngL lo n) := fun M' H' m dom => by
  refine ⟨fun i d e => ?_, ?_⟩
  · obtain ⟨h1, rfl⟩ := rngL_get e
    refine ⟨h1, fun x H'' y => ?_⟩
    obtain ⟨e1, e2⟩ := y
    subst e1 e2
    exact ⟨Al.refl, .mkInt⟩
  · show n ≤ (rngL lo n).length
    unfold rngL
    rw [List.length_map, List.length_range]
    exact Nat.le_refl _
def rng1 : D → DEnv → R (List D)
  | .int j, δ => if -(2 ^ 62) ≤ j ∧ j < 2 ^ 62 then .ok (rngL 0 j.toNat) δ else .bad
  | _, _ => .bad
def rng2 : D → D → DEnv → R (List D)
  | .int i, .int j, δ => if (-(2 ^ 62) ≤ i ∧ i < 2 ^ 62) ∧ (-(2 ^ 62) ≤ j ∧ j < 2 ^ 62) then .ok (rngL i (j - i).toNat) δ else .bad
  | _, _, _ => .bad
def iRng1 (F : Fe D) : Fe (List D) := fun δ => (F δ).bind rng1
def iRng2 (F G : Fe D) : Fe (List D) := fun δ => (F δ).bind fun a δ1 => (G δ1).bind fun b δ2 => rng2 a b δ2
theorem di_rng1 {tg a : Expr} {p pp : Pos} (hg : Gl X "range") (hm : X.mg "range" = none) (ha : DE X W a Fv) (hs : starEach [a] X.env = [(false, eval a X.env)] := by rfl) : DI X W tg (.Call (.Name "range" p) [a] [] pp) (iRng1 Fv) := by
  refine PI.imp (pi_range1 hg hm (pa_cons ha pa_nil hs) hs) fun σ H Q q => ?_
  obtain ⟨Mi, δ, R, q⟩ := tG_bind (P := pD X) q
  refine ⟨Mi, δ, R, q.imp fun v H1 ⟨Mi, d, δ1, R1, p, r⟩ => ?_⟩
  have p' : Dat X.K (msk Mi σ δ1) H1 d v := p
  cases d with
  | int j =>
    simp only [Dat] at p'
    subst p'
    have r' : RunG X W (pI X) Mi σ H1 δ1 (if -(2 ^ 62) ≤ j ∧ j < 2 ^ 62 then .ok (rngL 0 j.toNat) δ1 else .bad) Q := r
    split at r'
    · rename_i hb
      exact ⟨j, rfl, hb.1, hb.2, r' _ H1 (Go.refl R1) itr_R⟩
    · exact r'.elim
  | none => exact False.elim r
  | bool _ => exact False.elim r
  | str _ => exact False.elim r
  | list _ => exact False.elim r
  | tuple _ => exact False.elim r
  | dict _ => exact False.elim r
theorem di_rng2 {tg a b : Expr} {p pp : Pos} {Gv : Fe D} (hg : Gl X "range") (hm : X.mg "range" = none) (ha : DE X W a Fv) (hb : DE X W b Gv) (hs : starEach [a, b] X.env = [(false, eval a X.env), (false, eval b X.env)] := by rfl) (hs2 : starEach [b] X.env = [(false, eval b X.env)] := by rfl) :
    DI X W tg (.Call (.Name "range" p) [a, b] [] pp) (iRng2 Fv Gv) := by
  refine PI.imp (pi_range2 hg hm (pa_cons ha (pa_cons hb pa_nil hs2) (by rw [hs, hs2])) hs hs2) fun σ H Q q => ?_
  obtain ⟨Mi, δ, R, q⟩ := tG_bind2 (P := pD X) (P2 := pD X) (F2 := Gv) stays_D q
  refine ⟨Mi, δ, R, q.imp fun v H1 q1 => ?_⟩
  obtain ⟨Mi, δ, R, q1⟩ := q1
  refine ⟨Mi, δ, R, q1.imp fun u H2 ⟨Mi, d, e, δ2, R2, p1, p2, r⟩ => ?_⟩
  have h3 : Dat X.K (msk Mi σ δ2) H2 d v := p1
  have h5 : Dat X.K (msk Mi σ δ2) H2 e u := p2
  unfold rng2 at r
  split at r
  · rename_i i j
    simp only [Dat] at h3 h5
    subst h3 h5
    split at r
    · rename_i hb
      exact ⟨i, j, rfl, ⟨hb.1.1, hb.1.2, hb.2.1, hb.2.2⟩, r _ H2 (Go.refl R2) itr_R⟩
    · exact False.elim r
  · exact False.elim r
/-- for, item by item -/
def sForL (B : Bd) (F : Fs) : List D → Fs
  | [], δ => .next δ
  | d :: ds, δ =>
    match B d δ with
    | none => .bad
    | some δ1 => match F δ1 with
      | .next δ2 => sForL B F ds δ2
      | .cont δ2 => sForL B F ds δ2
      | .brk δ2 => .next δ2
      | r => r
def sFor (I : Fe (List D)) (B : Bd) (F : Fs) : Fs := fun δ => (I δ).bindS fun ds δ1 => sForL B F ds δ1
theorem for_rd {I : Fe (List D)} {sl : List Nat} {B : Bd} {E : Ends} {σ0 : St} {H0 : Hp} (q0 : tS X W (sFor I B F) E σ0 H0) : tFor (tG X W (pI X) I) (tB1 X sl B) (tS X W F) E σ0 H0 := by
  obtain ⟨Mi0, δ0, R0, q0⟩ := tS_bind (P := pI X) q0
  refine ⟨Mi0, δ0, R0, q0.imp fun J H1 ⟨Mi, ds, δ1, R1, p, r⟩ => ?_⟩
  have p' : ItR X (msk Mi σ0 δ1) H1 J ds := p
  refine ⟨fun i m σ H => m = ds.length - i ∧ i ≤ ds.length ∧ ∃ δ, Go X.K Mi Mi σ0 H1 δ1 σ H δ ∧ RunS X W Mi σ H δ (sForL B F (ds.drop i) δ) E, ⟨ds.length, by simp, Nat.zero_le _, δ1, Go.refl R1, r⟩, ?_⟩
  rintro i m σ H ⟨rfl, hi, δ, g, q⟩
  obtain ⟨pi, ps⟩ := p' _ _ (g.mv R1) fun a z => g.rep.dom' z
  by_cases hlt : i < ds.length
  · have ei : ds[i]? = some ds[i] := List.getElem?_eq_getElem hlt
    obtain ⟨go, y⟩ := pi i _ ei
    have ed : ds.drop i = ds[i] :: ds.drop (i + 1) := List.drop_eq_getElem_cons hlt
    rw [ed] at q
    have again : ∀ δ2, RunS X W Mi σ H δ (sForL B F (ds.drop (i + 1)) δ2) E → ∀ σ' H', Go X.K Mi Mi σ H δ σ' H' δ2 → ∃ δ, Go X.K Mi Mi σ0 H1 δ1 σ' H' δ ∧ RunS X W Mi σ' H' δ (sForL B F (ds.drop (i + 1)) δ) E :=
      fun δ2 h σ' H' g2 => ⟨δ2, g.trans g2, RunS.go g2 h⟩
    refine .inr ⟨go, fun σ' H' => ∃ δ, Go X.K Mi Mi σ0 H1 δ1 σ' H' δ ∧ RunS X W Mi σ' H' δ (sForL B F (ds.drop (i + 1)) δ) E, fun σ' H' h => ⟨ds.length - (i + 1), by omega, rfl, hlt, h⟩, fun x H2 hy => ?_⟩
    obtain ⟨al, dx⟩ := y x H2 hy
    have g2 := Go.al g.rep al
    have q2 := RunS.go g2 q
    unfold sForL at q2
    cases eb : B ds[i] δ with
    | none =>
      rw [eb] at q2
      exact q2.elim
    | some δ3 =>
      rw [eb] at q2
      refine ⟨Mi, _, δ, g2.rep, dx, δ3, eb, fun σ3 g3 _ => ⟨Mi, δ3, g3.rep, ?_⟩⟩
      have gg := g2.trans g3
      have q3 : RunS X W Mi σ3 H2 δ3 (match F δ3 with | .next δ2 => sForL B F (ds.drop (i + 1)) δ2 | .cont δ2 => sForL B F (ds.drop (i + 1)) δ2 | .brk δ2 => .next δ2 | r => r) E := RunS.go g3 q2
      cases ef : F δ3 with
      | next δ4 =>
        rw [ef] at q3
        exact fun σ' H' g4 => ⟨δ4, g.trans (gg.trans g4), RunS.go g4 q3⟩
      | cont δ4 =>
        rw [ef] at q3
        exact fun σ' H' g4 => ⟨δ4, g.trans (gg.trans g4), RunS.go g4 q3⟩
      | brk δ4 =>
        rw [ef] at q3
        exact fun σ' H' g4 => q3 σ' H' g4
      | ret c δ4 =>
        rw [ef] at q3
        cases c with
        | val d => exact q3
        | own d => exact q3
        | ref d => exact q3
        | exc _ _ _ => exact q3
      | err x δ4 =>
        rw [ef] at q3
        exact q3
      | bad =>
        rw [ef] at q3
        exact q3
  · have e : i = ds.length := by omega
    subst e
    rw [List.drop_length] at q
    exact .inl ⟨ps, RunS.nx (δ' := δ) g.rep q⟩
theorem ds_for {tg iter : Expr} {I : Fe (List D)} {sl : List Nat} {B : Bd} (hp : PassesOwn (model X.prog X.w) X.A X.env X.xe) (hc : X.calm = true) (hi : DI X W tg iter I) (hg : DG X tg sl B) (hb : DSs X W body F)
    (hs : ∀ x, foldedSetIterable iter X.env x = pure x := by intro _; rfl) : DS X W (.For tg iter body [] pos) (sFor I B F) :=
  PS.imp (ps_for hp hc hi hg hb hs) fun _ _ _ q => for_rd q
end
end Dl

set_option Elab.async false
set_option linter.all false
set_option maxRecDepth 100000
namespace Dl
open PySem PySem.Spec PyProof.Rows L2

/-! ### defs -/
/-- a call's result: what is handed back, what has become of what was lent -/
inductive RF where
  | ok (c : Cell) (outs : DEnv)
  | err (x : Exn) (outs : DEnv)
  | bad
/-- a def as a function of its arguments' data -/
abbrev Mir := List Cell → RF
def Cell.isArg : Cell → Bool
  | .val _ | .ref _ => true
  | _ => false
def outs : List Cell → DEnv → DEnv
  | .ref _ :: cs, c :: δ => c :: outs cs δ
  | _ :: cs, _ :: δ => none :: outs cs δ
  | _, _ => []
theorem outs_get : ∀ {cs : List Cell} {δ : DEnv} {i : Nat} {c : Cell}, (outs cs δ)[i]? = some (some c) → ∃ d, cs[i]? = some (.ref d) ∧ δ[i]? = some (some c)
  | [], _, i, c, h => by simp [outs] at h
  | c0 :: cs, [], i, c, h => by
    cases c0 <;> simp [outs] at h
  | c0 :: cs, x :: δ, 0, c, h => by
    cases c0 with
    | ref d => exact ⟨d, rfl, by simpa [outs] using h⟩
    | val d => simp [outs] at h
    | own d => simp [outs] at h
    | exc _ _ _ => simp [outs] at h
  | c0 :: cs, x :: δ, i + 1, c, h => by
    have h' : (outs cs δ)[i]? = some (some c) := by
      cases c0 <;> simpa [outs] using h
    obtain ⟨d, e1, e2⟩ := outs_get h'
    exact ⟨d, by simpa using e1, by simpa using e2⟩
theorem outs_ref : ∀ {cs : List Cell} {δ : DEnv} {i : Nat} {d : D} {c : Cell}, cs[i]? = some (.ref d) → δ[i]? = some (some c) → (outs cs δ)[i]? = some (some c)
  | [], _, i, d, c, h, _ => by simp at h
  | c0 :: cs, [], i, d, c, _, h => by simp at h
  | c0 :: cs, x :: δ, 0, d, c, h, g => by
    simp at h g
    subst h g
    simp [outs]
  | c0 :: cs, x :: δ, i + 1, d, c, h, g => by
    have r := outs_ref (cs := cs) (δ := δ) (i := i) (by simpa using h) (by simpa using g)
    cases c0 <;> simpa [outs] using r
theorem outs_len : ∀ (cs : List Cell) (δ : DEnv), (outs cs δ).length ≤ cs.length
  | [], _ => by simp [outs]
  | c0 :: cs, [] => by cases c0 <;> simp [outs]
  | c0 :: cs, x :: δ => by
    have := outs_len cs δ
    cases c0 <;> simp [outs] <;> omega

def ClsM (mg : Str → Option Value) (n : Str) (c : Value) : Prop := mg n = some c ∨ (mg n = none ∧ bootBuiltins n = some c)
/-- what a call by data promises -/
def spM (K : PySem.W.Frag) (mg : Str → Option Value) (m : Mir) : Sp := fun vs H Q E => ∃ (Mi : Msk) (cells : List Cell), cells.length = vs.length ∧ Rep K Mi (vs.map some) H (cells.map some) ∧ (∀ c ∈ cells, c.isArg = true) ∧
  match m cells with
  | .ok (.val d) o => ∀ v H', Go K Mi Mi (vs.map some) H (cells.map some) (vs.map some) H' o → Dat K Mi H' d v → Q v H'
  | .ok (.own d) o => ∀ a H', Go K Mi (plus Mi a) (vs.map some) H (cells.map some) (vs.map some) H' o → H a = none → Cont K (plus Mi a) H' a d → Q (.ref a) H'
  | .ok _ _ => False
  | .err x o => ∀ cls dd H', ClsM mg x.cls cls → Go K Mi Mi (vs.map some) H (cells.map some) (vs.map some) H' o → ExcD K Mi H' dd x → E cls dd H'
  | .bad => False
structure FnG (P : Program) (w : World) (K : PySem.W.Frag) (mg : Str → Option Value) (base : Heap) (k : Nat) (f : Addr) (fd : FuncData) (ps : List Str) (m : Mir) : Prop where
  bnd : Binds K fd ps []
  kp : PySem.W.keepIn K (.ref f) = true
  len : ∀ cells, m cells ≠ .bad → cells.length = ps.length
  run : ∀ (A : Around) (outer : List PySem.Env) (s : Shared) (H : Hp) (args : Args) (us : List Value) (vs : List V) (Q : VK) (E : XK), Room k A → A.guards = some [] → Env0 P w K mg base A outer s H → BindsTo s fd args (ps.zip us) → Vals vs us →
    spM K mg m vs H Q E → codeAny (model P w) A (.call (.ref f) args) (CR (L2.CX P w) outer P w H s Q E) s
theorem spM_len {K : PySem.W.Frag} {mg : Str → Option Value} {m : Mir} {n : Nat} (hl : ∀ cells, m cells ≠ .bad → cells.length = n) {vs : List V} {H : Hp} {Q : VK} {E : XK} (h : spM K mg m vs H Q E) : vs.length = n := by
  obtain ⟨Mi, cells, e, _, _, h⟩ := h
  rw [← e]
  refine hl cells fun z => ?_
  rw [z] at h
  exact h

/-- a def's mirror by its body -/
def runBody (n : Nat) (F : Fs) : Mir := fun cells =>
  match F (cells.map some ++ List.replicate (n - cells.length) none) with
  | .ret c δ => .ok c (outs cells δ)
  | .next δ => .ok (.val .none) (outs cells δ)
  | .err x δ => .err x (outs cells δ)
  | _ => .bad
/-- .. of a def of so many parameters -/
def mir (np n : Nat) (F : Fs) : Mir := fun cells => if cells.length = np then runBody n F cells else .bad

section
variable {K : PySem.W.Frag} {Mi Mo : Msk} {H H' : Hp}
theorem noOwn {vs : List V} {cells : List Cell} (ha : ∀ c ∈ cells, c.isArg = true) (a : Addr) : ¬ Owned (vs.map some) (cells.map some) a := fun ⟨i, d, e, _⟩ => by
  rw [List.getElem?_map] at e
  cases h : cells[i]? with
  | none =>
    rw [h] at e
    cases e
  | some c =>
    rw [h] at e
    cases e
    have := ha _ (List.mem_of_getElem? h)
    cases this
theorem get_start {N : List Str} {vs : List V} {i : Nat} (h : i < vs.length) : (L2.start N vs)[i]? = (vs.map some)[i]? := by
  unfold L2.start
  rw [List.getElem?_append_left (by simpa using h)]
theorem get_pad {cells : List Cell} {n i : Nat} {c : Cell} (h : (cells.map some ++ List.replicate n none)[i]? = some (some c)) : i < cells.length ∧ (cells.map some)[i]? = some (some c) := by
  by_cases hi : i < cells.length
  · rw [List.getElem?_append_left (by simpa using hi)] at h
    exact ⟨hi, h⟩
  · rw [List.getElem?_append_right (by simpa using Nat.le_of_not_lt hi), List.getElem?_replicate] at h
    split at h <;> cases h
/-- at the entry of a def -/
theorem Rep.start {N : List Str} {vs : List V} {cells : List Cell} {n : Nat} (hl : cells.length = vs.length) (hn : n = N.length) (hv : vs.length ≤ N.length) (R : Rep K Mi (vs.map some) H (cells.map some)) (ha : ∀ c ∈ cells, c.isArg = true) :
    Rep K Mi (L2.start N vs) H (cells.map some ++ List.replicate (n - cells.length) none) := by
  have own0 : ∀ a, ¬ Owned (L2.start N vs) (cells.map some ++ List.replicate (n - cells.length) none) a := fun a ⟨i, d, e, s⟩ => by
    obtain ⟨h1, h2⟩ := get_pad e
    rw [get_start (by omega)] at s
    exact noOwn ha a ⟨i, d, h2, s⟩
  have mk : msk Mi (L2.start N vs) (cells.map some ++ List.replicate (n - cells.length) none) = msk Mi (vs.map some) (cells.map some) := by
    funext a
    exact propext ⟨fun z => z.elim .inl fun z => absurd z (own0 a), fun z => z.elim .inl fun z => absurd z (noOwn ha a)⟩
  refine ⟨?_, fun i c e => ?_, fun i j c c' a ne e1 e2 m1 m2 s1 s2 => ?_, R.dom⟩
  · unfold L2.start
    simp only [List.length_append, List.length_map, List.length_replicate]
    omega
  · obtain ⟨h1, h2⟩ := get_pad e
    obtain ⟨v, ev, r⟩ := R.cell i c h2
    refine ⟨v, ?_, ?_⟩
    · rw [get_start (by omega)]
      exact ev
    · rw [mk]
      exact r
  · obtain ⟨h1, h2⟩ := get_pad e1
    obtain ⟨h3, h4⟩ := get_pad e2
    rw [get_start (by omega)] at s1 s2
    exact R.sep i j c c' a ne h2 h4 m1 m2 s1 s2
/-- at a def's end: back to the arguments alone -/
theorem Go.leave {N : List Str} {vs : List V} {cells : List Cell} {n : Nat} {σ' : St} {δ' : DEnv} (hl : cells.length = vs.length) (hn : n = N.length) (hv : vs.length ≤ N.length) (ha : ∀ c ∈ cells, c.isArg = true)
    (g : Go K Mi Mo (L2.start N vs) H (cells.map some ++ List.replicate (n - cells.length) none) σ' H' δ') : Go K Mi Mo (vs.map some) H (cells.map some) (vs.map some) H' (outs cells δ') ∧ Mv (msk Mo σ' δ') H' Mo H' := by
  have own0 : ∀ a, ¬ Owned (L2.start N vs) (cells.map some ++ List.replicate (n - cells.length) none) a := fun a ⟨i, d, e, s⟩ => by
    obtain ⟨h1, h2⟩ := get_pad e
    rw [get_start (by omega)] at s
    exact noOwn ha a ⟨i, d, h2, s⟩
  have pad : ∀ {i : Nat} {d : D}, cells[i]? = some (Cell.ref d) → (cells.map some ++ List.replicate (n - cells.length) none)[i]? = some (some (Cell.ref d)) := fun {i d} e => by
    have hi := (List.getElem?_eq_some_iff.mp e).1
    rw [List.getElem?_append_left (by simpa using hi), List.getElem?_map, e]
    rfl
  -- what was lent lies where it lay
  have there : ∀ (i : Nat) (d : D), cells[i]? = some (Cell.ref d) → σ'[i]? = (vs.map some)[i]? ∧ ∃ d', δ'[i]? = some (some (Cell.ref d')) := fun i d e => by
    obtain ⟨q, r⟩ := g.lent i ⟨d, pad e⟩
    have hi := (List.getElem?_eq_some_iff.mp e).1
    rw [get_start (by omega)] at q
    exact ⟨q, r⟩
  have isR : ∀ {i : Nat} {c : Cell}, (outs cells δ')[i]? = some (some c) → ∃ d d', cells[i]? = some (Cell.ref d) ∧ c = Cell.ref d' ∧ δ'[i]? = some (some (Cell.ref d')) ∧ σ'[i]? = (vs.map some)[i]? := fun {i c} e => by
    obtain ⟨d, e1, e2⟩ := outs_get e
    obtain ⟨q, d', e3⟩ := there i d e1
    rw [e2] at e3
    cases e3
    exact ⟨d, d', e1, rfl, e2, q⟩
  have ownO : ∀ a, ¬ Owned (vs.map some) (outs cells δ') a := fun a ⟨i, d, e, _⟩ => by
    obtain ⟨_, _, _, z, _⟩ := isR e
    cases z
  have m : Mv (msk Mo σ' δ') H' (msk Mo (vs.map some) (outs cells δ')) H' := Mv.shrink fun a z => z.elim .inl fun z => absurd z (ownO a)
  refine ⟨⟨⟨?_, fun i c e => ?_, fun i j c c' a ne e1 e2 m1 m2 s1 s2 => ?_, g.rep.dom⟩, fun a o n1 n2 e => ?_, fun a z => absurd z (ownO a), fun i ⟨d, e⟩ => ?_, fun i ⟨d, e⟩ => ?_, g.trk⟩, Mv.shrink fun a z => .inl z⟩
  · have := outs_len cells δ'
    simp only [List.length_map]
    omega
  · obtain ⟨d, d', e1, rfl, e2, q⟩ := isR e
    obtain ⟨v, ev, a, rfl, ma, ct⟩ := g.rep.cell i _ e2
    exact ⟨_, by rw [← q]; exact ev, a, rfl, ma, ct.mv m rfl⟩
  · obtain ⟨_, d1, _, rfl, f1, q1⟩ := isR e1
    obtain ⟨_, d2, _, rfl, f2, q2⟩ := isR e2
    exact g.rep.sep i j _ _ a ne f1 f2 rfl rfl (by rw [q1]; exact s1) (by rw [q2]; exact s2)
  · refine g.stab a o (own0 a) (fun ⟨i, d, e1, s1⟩ => ?_) e
    obtain ⟨h1, h2⟩ := get_pad e1
    rw [get_start (by omega)] at s1
    exact n2 ⟨i, d, h2, s1⟩
  · rw [List.getElem?_map] at e
    cases h : cells[i]? with
    | none =>
      rw [h] at e
      cases e
    | some c =>
      rw [h] at e
      have ec : c = .ref d := Option.some.inj (Option.some.inj e)
      subst ec
      obtain ⟨q, d', r⟩ := there i d h
      exact ⟨rfl, d', outs_ref h r⟩
  · obtain ⟨d, d', e1, _, _, _⟩ := isR e
    refine ⟨d, ?_⟩
    rw [List.getElem?_map, e1]
    rfl
end

/-- THE RULE for a def: its body, by data -/
theorem fnG_of {P : Program} {w : World} {K : PySem.W.Frag} {mg : Str → Option Value} {base : Heap} {x qual : Str} {st : Stmt} {f : Addr} {fd : FuncData} {N ps : List Str} {k np n : Nat} {F : Fs} (Fn : Fun K x qual st f fd) (S : FnScope N ps (defScope st)) (hb : Binds K fd ps [])
    (hnp : np = ps.length) (hn : n = N.length)
    (hbody : ∀ (cdv : Value) (A : Around) (outer : List PySem.Env) (s : Shared) (H : Hp) (E : XK), Ok (cxOf (L2.CX P w) P w K mg base N qual (defScope st) f cdv A outer s H E) k →
      DSs (cxOf (L2.CX P w) P w K mg base N qual (defScope st) f cdv A outer s H E) (fun cls d _ H' => E cls d H') (defBody st) F) :
    FnG P w K mg base (k + 1) f fd ps (mir np n F) := by
  have hlen : ∀ cells, mir np n F cells ≠ .bad → cells.length = ps.length := fun cells h => by
    unfold mir at h
    split at h
    · rename_i e
      rw [e, hnp]
    · exact absurd rfl h
  refine ⟨hb, Fn.kp, hlen, fun A outer s H args us vs Q E hr hg e0 hbd r hsp => ?_⟩
  have hl := spM_len hlen hsp
  obtain ⟨oc, od, kV, doc, pm, an, cdv, ct, osl, rfl, lk, hcd⟩ := Fn.ex
  have KX : K.In s.heap := e0.mod.kin.keeps fun b o e => (e0.bs b o e).1
  have lim : s.heap.NoLimit := e0.mod.nolimit.keeps fun b o e => (e0.bs b o e).1
  have kinds : ∀ y ∈ ps.zip us, (defScope st).names.lookup y.1 = some .local ∨ ((defScope st).names.lookup y.1 = some .cell ∧ ((cellsFrom (s.heap.objs.size + 1) (defScope st).names []).lookup y.1).isSome = true) := fun y hy =>
    (S.par y.1 (List.of_mem_zip (a := y.1) (b := y.2) hy).1).elim .inl fun q => .inr ⟨q, PySem.W.cellsFrom_some _ _ _ (.inl q)⟩
  refine codeAny_call_function hr.depth (KX _ _ lk) rfl S.co S.gen rfl (PySem.W.codeRec_of KX hcd) (hbd _ _ _ _ ?_)
  refine wpAny_newFunctionEnv_cells S.kind kinds fun env he s1 x1 => ?_
  subst he
  refine ⟨lim.keeps x1.toInCall.keep, codeAny_func ?_⟩
  have ok : Ok (cxOf (L2.CX P w) P w K mg base N qual (defScope st) f cdv A outer s H E) k := ⟨hr.deeper _, hg⟩
  have body := hbody cdv A outer s H E ok
  have I : Inv (cxOf (L2.CX P w) P w K mg base N qual (defScope st) f cdv A outer s H E) [] (L2.start N vs) H s1 := inv_start S hr.hd e0 hl r x1
  obtain ⟨Mi, cells, hc, Rp, ha, q⟩ := hsp
  have hv : vs.length ≤ N.length := by
    have := congrArg List.length S.pre
    rw [List.length_take] at this
    omega
  have start_ : tS (cxOf (L2.CX P w) P w K mg base N qual (defScope st) f cdv A outer s H E) (fun cls d _ H' => E cls d H') F { nx := fun _ H' => Q .non H', rt := Q } (L2.start N vs) H := by
    refine ⟨Mi, _, Rep.start hc hn hv Rp ha, ?_⟩
    by_cases hc2 : cells.length = np
    · have em : mir np n F cells = runBody n F cells := by
        unfold mir
        rw [if_pos hc2]
      rw [em] at q
      unfold runBody at q
      cases ef : F (cells.map some ++ List.replicate (n - cells.length) none) with
      | next δ' =>
        rw [ef] at q
        exact fun σ' H' g => q .non H' (Go.leave hc hn hv ha g).1 Dat.mkNone
      | ret c δ' =>
        rw [ef] at q
        cases c with
        | val d => exact fun v σ' H' g dv => q v H' (Go.leave hc hn hv ha g).1 (Dat.mv (Go.leave hc hn hv ha g).2 dv)
        | own d =>
          refine fun a σ' H' g fr c => q a H' (Go.leave hc hn hv ha g).1 ?_ (c.mv (Go.leave hc hn hv ha g).2 rfl)
          rcases fr with ⟨i, d', e, s2⟩ | fr
          · obtain ⟨h1, h2⟩ := get_pad e
            rw [get_start (by omega)] at s2
            exact absurd ⟨i, d', h2, s2⟩ (noOwn ha a)
          · exact fr
        | ref d => exact q
        | exc _ _ _ => exact q
      | err x δ' =>
        rw [ef] at q
        exact fun cls dd σ' H' hcls g ex => q cls dd H' hcls (Go.leave hc hn hv ha g).1 (ex.mv (Go.leave hc hn hv ha g).2)
      | brk δ' =>
        rw [ef] at q
        exact q.elim
      | cont δ' =>
        rw [ef] at q
        exact q.elim
      | bad =>
        rw [ef] at q
        exact q.elim
    · have em : mir np n F cells = .bad := by
        unfold mir
        rw [if_neg hc2]
      rw [em] at q
      exact q.elim
  have fin : ∀ {σ' : St} {H' : Hp} {v : V} {u : Value} {s' : Shared}, Inv (cxOf (L2.CX P w) P w K mg base N qual (defScope st) f cdv A outer s H E) [] σ' H' s' → RelV v u → Q v H' → CE outer P w H s Q u s' :=
    fun {σ' H' v u s'} J rv qq => ⟨v, H', J.os, J.bare, J.base, J.hok, rv, qq⟩
  refine wpAny_mono (body.run [] s1 _ H _ I start_) (fun fl s' hs => ?_) fun _ _ hs => hs
  cases fl with
  | ret u =>
    obtain ⟨_, _, _, J, rv, qq⟩ := hs
    exact fin J rv qq
  | next =>
    obtain ⟨_, _, J, qq⟩ := hs
    exact fin (v := V.non) (u := Value.none) J rfl qq
  | brk =>
    obtain ⟨_, _, _, qq⟩ := hs
    exact False.elim qq
  | cont =>
    obtain ⟨_, _, _, qq⟩ := hs
    exact False.elim qq
end Dl

set_option Elab.async false
set_option linter.all false
set_option maxRecDepth 100000
namespace Dl
open PySem PySem.Spec PyProof.Rows L2

section
variable {X : Cx} {W : WX} {Mi : Msk} {σ : St} {H H1 : Hp} {δ δ1 : DEnv}

/-! ### calls of defs -/
/-- an argument: a datum, or a slot that is lent -/
def pAp (X : Cx) (p i : Nat) : Rl (List D) (List V) := fun Mi ds σ δ H vs => ds.length = vs.length ∧ (∀ (k : Nat) (d : D) (v : V), k ≠ p → ds[k]? = some d → vs[k]? = some v → Dat X.K (msk Mi σ δ) H d v) ∧ ∀ v, vs[p]? = some v → σ[i]? = some (some v)
def DAp (X : Cx) (W : WX) (p i : Nat) (es : List Expr) (F : Fe (List D)) : Prop := PA X es (tG X W (pAp X p i) F)
theorem stays_Ap {p i : Nat} : Stays (X := X) (pAp X p i) := fun Mi a σ δ H v H' δ' R g h => ⟨h.1, fun k d u n e1 e2 => Dat.mv (g.mv R) (h.2.1 k d u n e1 e2), h.2.2⟩
/-- the slot is lent: it is an own container, or one lent itself -/
def lendable (δ : DEnv) (i : Nat) : Option D :=
  match δ[i]? with
  | some (some (.own d)) => some d
  | some (some (.ref d)) => some d
  | _ => none
theorem lend_cell {i : Nat} {d : D} (h : lendable δ i = some d) : δ[i]? = some (some (.own d)) ∨ δ[i]? = some (some (.ref d)) := by
  unfold lendable at h
  split at h
  · rename_i e
    cases h
    exact .inl e
  · rename_i e
    cases h
    exact .inr e
  · cases h
/-- the lent slot first -/
def apHead (i : Nat) (G : Fe (List D)) : Fe (List D) := fun δ =>
  match lendable δ i with
  | some _ => (G δ).bind fun ds δ1 => .ok (.none :: ds) δ1
  | none => .bad
theorem dap_head {i : Nat} {x : Str} {pos : Pos} {es : List Expr} {G : Fe (List D)} (hN : X.N[i]? = some x) (hv : Vis X.env.scope x) (t : DA X W es G) (hs : starEach (.Name x pos :: es) X.env = (false, eval (.Name x pos) X.env) :: starEach es X.env := by rfl)
    (hd : (x == ("__debug__" : Str)) = false := by decide +kernel) (hcd : (x == ("__classdict__" : Str)) = false := by decide +kernel) : DAp X W 0 i (.Name x pos :: es) (apHead i G) := by
  refine PA.imp (pa_cons (pe_var hN hv hd hcd) t hs) fun σ H Q ⟨Mi, δ, R, q⟩ => ?_
  unfold apHead at q
  cases e : lendable δ i with
  | none =>
    rw [e] at q
    exact q.elim
  | some d =>
    rw [e] at q
    have hv : ∃ v, σ[i]? = some (some v) := by
      rcases lend_cell e with c | c
      · obtain ⟨v, ev, _⟩ := R.cell i _ c
        exact ⟨v, ev⟩
      · obtain ⟨v, ev, _⟩ := R.cell i _ c
        exact ⟨v, ev⟩
    obtain ⟨v, ev⟩ := hv
    refine ⟨v, ev, Mi, δ, R, (RunG.bind (P := pA X) q).imp fun vs H1 ⟨ds, δ1, g, p, r⟩ => ?_⟩
    have p' : DatAll X.K (msk Mi σ δ1) H1 ds vs := p
    refine r (v :: vs) H1 (Go.refl g.rep) ⟨by rw [List.length_cons, List.length_cons, p'.length], fun k d u n e1 e2 => ?_, fun u e => ?_⟩
    · match k, n, e1, e2 with
      | 0, n, _, _ => exact absurd rfl n
      | k + 1, _, e1, e2 =>
        obtain ⟨w, ew, dw⟩ := p'.get (i := k) (by simpa using e1)
        have e2' : vs[k]? = some u := by simpa using e2
        rw [ew] at e2'
        cases e2'
        exact dw
    · have e' : v = u := Option.some.inj e
      rw [← e']
      exact ev
def apCons (F : Fe D) (G : Fe (List D)) : Fe (List D) := fun δ => (F δ).bind fun d δ1 => (G δ1).bind fun ds δ2 => .ok (d :: ds) δ2
theorem dap_cons {p i : Nat} {e : Expr} {es : List Expr} {F : Fe D} {G : Fe (List D)} (h : DE X W e F) (t : DAp X W p i es G) (hs : starEach (e :: es) X.env = (false, eval e X.env) :: starEach es X.env := by rfl) : DAp X W (p + 1) i (e :: es) (apCons F G) := by
  refine PA.imp (pa_cons h t hs) fun σ H Q q => ?_
  obtain ⟨Mi, δ, R, q'⟩ := tG_bind2 (P := pD X) (P2 := pAp X p i) (F2 := G) stays_D q
  refine ⟨Mi, δ, R, q'.imp fun v H1 q1 => ?_⟩
  obtain ⟨Mi, δ, R, q1⟩ := q1
  refine ⟨Mi, δ, R, q1.imp fun u H2 ⟨Mi, a, b, δ2, R2, p1, p2, r⟩ => r (v :: u) H2 (Go.refl R2) ⟨by rw [List.length_cons, List.length_cons, p2.1], fun k d w n e1 e2 => ?_, fun w e => p2.2.2 w (by simpa using e)⟩⟩
  match k, n, e1, e2 with
  | 0, _, e1, e2 =>
    have h1 : a = d := Option.some.inj e1
    have h2 : v = w := Option.some.inj e2
    rw [← h1, ← h2]
    exact p1
  | k + 1, n, e1, e2 => exact p2.2.1 k d w (fun z => n (by omega)) (by simpa using e1) (by simpa using e2)
/-- behind a call: what was lent -/
def unlend (i p : Nat) (o : DEnv) (δ : DEnv) : DEnv :=
  match o[p]?, δ[i]? with
  | some (some (.ref d)), some (some c) => δ.set i (some (upCell c d))
  | _, _ => δ
def cellRes : RF → DEnv → R Cell
  | .ok c _, δ => .ok c δ
  | .err x _, δ => .err x δ
  | .bad, _ => .bad
/-- a call's data: no argument is lent -/
def callV (m : Mir) (F : Fe (List D)) : Fe Cell := fun δ => (F δ).bind fun ds δ1 =>
  cellRes (m (ds.map .val)) δ1
/-- .. the one at p, slot i, is -/
def callR (m : Mir) (p i : Nat) (F : Fe (List D)) : Fe Cell := fun δ => (F δ).bind fun ds δ1 =>
  match lendable δ1 i with
  | some d => match m ((ds.map Cell.val).set p (.ref d)) with
    | .ok c o => .ok c (unlend i p o δ1)
    | .err x o => .err x (unlend i p o δ1)
    | .bad => .bad
  | none => .bad
def toVal : Cell → DEnv → R D
  | .val d, δ => .ok d δ
  | .own d, δ => .ok d δ
  | _, _ => .bad
def toOwn : Cell → DEnv → R D
  | .own d, δ => .ok d δ
  | _, _ => .bad
/-- one call, by what must hold of each end -/
theorem FnG.call {k : Nat} {f : Addr} {fd : FuncData} {ps : List Str} {m : Mir} {x : Str} {p pos : Pos} {e : Expr} {es : List Expr} {ta : TA} (F : FnG X.prog X.w X.K X.mg X.base k f fd ps m) (ok : Ok X k) (tk : Takes X W) (hg : Gl X x) (hm : X.mg x = some (.ref f)) (ha : PA X (e :: es) ta)
    (hdb : (x == ("__debug__" : Str)) = false := by decide +kernel) (he : starEach (e :: es) X.env = (false, eval e X.env) :: starEach es X.env := by rfl) (hpl : (backTo pos (starEach es X.env)).any (·.1) = false := by rfl) :
    PE X (.Call (.Name x p) (e :: es) [] pos) fun σ H Q => ta σ H fun vs H1 => spM X.K X.mg m vs H1 Q (WE W σ) := by
  refine ⟨fun pins s σ H Q I h => ?_⟩
  refine wpAny_Call_Name_kw (ld_glob I hg hm ?_ hdb)
  refine PySem.W.callWith_K (h₀ := X.base) I.ok.mod.kin F.kp (thn (ha.run pos pins s σ H _ I h) fun us s1 ⟨vs, H1, I1, r, q⟩ => ⟨I1.kIn, ?_⟩) he hpl
  have hl : us.length = ps.length := by rw [← r.length]; exact spM_len F.len q
  have b := F.bnd s1 us I1.kIn (by rw [List.append_nil]; exact hl)
  rw [List.append_nil] at b
  refine wpAny_call (codeAny_mono (F.run X.A X.stack s1 H1 ⟨us, []⟩ us vs Q (WE W σ) ok.room ok.gd I1.env0 b r q) fun rr s' hq => ?_)
  cases rr with
  | error e => exact passAt tk σ pins H1 s1 e s' I1 hq
  | ok fl =>
    cases fl with
    | ret u => exact I1.after hq
    | next => exact False.elim hq
    | brk => exact False.elim hq
    | cont => exact False.elim hq
theorem FnG.call0 {k : Nat} {f : Addr} {fd : FuncData} {ps : List Str} {m : Mir} {x : Str} {p pos : Pos} (F : FnG X.prog X.w X.K X.mg X.base k f fd ps m) (ok : Ok X k) (tk : Takes X W) (hg : Gl X x) (hm : X.mg x = some (.ref f))
    (hdb : (x == ("__debug__" : Str)) = false := by decide +kernel) :
    PE X (.Call (.Name x p) [] [] pos) fun σ H Q => spM X.K X.mg m [] H Q (WE W σ) := by
  refine ⟨fun pins s σ H Q I q => ?_⟩
  refine wpAny_Call_Name_kw (ld_glob I hg hm ?_ hdb)
  refine PySem.W.callWith_K0 I.kIn F.kp ?_
  have hl : ([] : List Value).length = ps.length := spM_len (vs := []) F.len q
  have b := F.bnd s [] I.kIn (by rw [List.append_nil]; exact hl)
  rw [List.append_nil] at b
  refine wpAny_call (codeAny_mono (F.run X.A X.stack s H ⟨[], []⟩ [] [] Q (WE W σ) ok.room ok.gd I.env0 b .nil q) fun rr s' hq => ?_)
  cases rr with
  | error e => exact passAt tk σ pins H s e s' I hq
  | ok fl =>
    cases fl with
    | ret u => exact I.after hq
    | next => exact False.elim hq
    | brk => exact False.elim hq
    | cont => exact False.elim hq

/-! #### the data of a call -/
theorem repV {ds : List D} {vs : List V} (R : Rep X.K Mi σ H δ) (p : DatAll X.K (msk Mi σ δ) H ds vs) : Rep X.K (msk Mi σ δ) (vs.map some) H ((ds.map Cell.val).map some) := by
  have own0 : ∀ a, ¬ Owned (vs.map some) ((ds.map Cell.val).map some) a := fun a ⟨i, d, e, _⟩ => by
    rw [List.getElem?_map, List.getElem?_map] at e
    cases h : ds[i]? with
    | none =>
      rw [h] at e
      cases e
    | some c =>
      rw [h] at e
      cases e
  have m : Mv (msk Mi σ δ) H (msk (msk Mi σ δ) (vs.map some) ((ds.map Cell.val).map some)) H := Mv.shrink fun a z => z.elim id fun z => absurd z (own0 a)
  refine ⟨by simp [p.length], fun i c e => ?_, fun i j c c' a ne e1 e2 m1 m2 => ?_, fun a z => R.dom' z⟩
  · rw [List.getElem?_map, List.getElem?_map] at e
    cases h : ds[i]? with
    | none =>
      rw [h] at e
      cases e
    | some d =>
      rw [h] at e
      cases e
      obtain ⟨v, ev, dv⟩ := p.get h
      refine ⟨v, ?_, Dat.mv m dv⟩
      rw [List.getElem?_map, ev]
      rfl
  · rw [List.getElem?_map, List.getElem?_map] at e1
    cases h : ds[i]? with
    | none =>
      rw [h] at e1
      cases e1
    | some d =>
      rw [h] at e1
      cases e1
      cases m1
theorem goV {Mo : Msk} {ds : List D} {vs : List V} {o : DEnv} {H' : Hp} (R : Rep X.K Mi σ H δ) (p : DatAll X.K (msk Mi σ δ) H ds vs) (g : Go X.K (msk Mi σ δ) Mo (vs.map some) H ((ds.map Cell.val).map some) (vs.map some) H' o) : Al H H' := by
  have own0 : ∀ a, ¬ Owned (vs.map some) ((ds.map Cell.val).map some) a := fun a ⟨i, d, e, _⟩ => by
    rw [List.getElem?_map, List.getElem?_map] at e
    cases h : ds[i]? with
    | none =>
      rw [h] at e
      cases e
    | some c =>
      rw [h] at e
      cases e
  have lent0 : ∀ a, ¬ Lent (vs.map some) ((ds.map Cell.val).map some) a := fun a ⟨i, d, e, _⟩ => by
    rw [List.getElem?_map, List.getElem?_map] at e
    cases h : ds[i]? with
    | none =>
      rw [h] at e
      cases e
    | some c =>
      rw [h] at e
      cases e
  exact fun a u e => g.stab a u (own0 a) (lent0 a) e
theorem argV (ds : List D) : ∀ c ∈ ds.map Cell.val, c.isArg = true := fun c h => by
  obtain ⟨d, _, rfl⟩ := List.mem_map.mp h
  rfl
/-- Go where objects are only added, and one of them is nobody's -/
theorem Go.alNew {K : PySem.W.Frag} {H' : Hp} {a : Addr} (R : Rep K Mi σ H δ) (al : Al H H') (tr : ∀ b, H' b = none → H b = none) (n : H a = none) (there : H' a ≠ none) : Go K Mi (plus Mi a) σ H δ σ H' δ := by
  have g := Go.al R al
  have m : Mv (msk Mi σ δ) H (msk (plus Mi a) σ δ) H' := fun b u q e => ⟨fun z => by
    rcases z with (z | z) | z
    · exact q (.inl z)
    · subst z
      rw [n] at e
      cases e
    · exact q (.inr z), al b u e⟩
  refine ⟨⟨R.len, fun i c e => ?_, R.sep, fun b z => ?_⟩, g.stab, g.own, g.lent, g.lentB, g.trk⟩
  · obtain ⟨v, e1, r⟩ := R.cell i c e
    refine ⟨v, e1, r.mv m (fun b u _ _ eu z y => y.elim z fun w => ?_) (fun b _ z _ => .inl z) fun b hm ev => ?_⟩
    · subst w
      rw [n] at eu
      cases eu
    · have : ∃ u, H b = some u := by
        cases c with
        | val d => cases hm
        | own d =>
          obtain ⟨b2, e2, _, q⟩ := r
          rw [ev] at e2
          cases e2
          exact q.some
        | ref d =>
          obtain ⟨b2, e2, _, q⟩ := r
          rw [ev] at e2
          cases e2
          exact q.some
        | exc _ _ _ => cases hm
      obtain ⟨u, eu⟩ := this
      rw [al b u eu, eu]
  · rcases z with z | z
    · intro q
      exact R.dom b z (tr b q)
    · subst z
      exact there
theorem RunG.mono_err {α β : Type} {P : Rl α β} {r : R α} {Q : β → Hp → Prop} (h : RunG X W P Mi σ H δ r Q) : RunG X W P Mi σ H δ r Q := h
theorem callV_spM {m : Mir} {ds : List D} {vs : List V} {Q : VK} (R : Rep X.K Mi σ H δ) (p : DatAll X.K (msk Mi σ δ) H ds vs)
    (h : RunG X W (pD X) Mi σ H δ ((cellRes (m (ds.map .val)) δ).bind toVal) Q) : spM X.K X.mg m vs H Q (WE W σ) := by
  refine ⟨msk Mi σ δ, ds.map .val, by rw [List.length_map, p.length], repV R p, argV ds, ?_⟩
  cases e : m (ds.map .val) with
  | ok c o =>
    rw [e] at h
    cases c with
    | val d => exact fun v H' g dv => h v H' (Go.al R (goV R p g)) dv
    | own d =>
      have h' : RunG X W (pD X) Mi σ H δ (.ok d δ) Q := h
      refine fun a H' g n c => h' _ H' (Go.al R (goV R p g)) ?_
      have m2 : Mv (plus (msk Mi σ δ) a) H' (msk Mi σ δ) H' := Mv.shrink fun b z => .inl z
      exact (c.mv m2 rfl).dat fun z => R.dom' z n
    | ref d => exact h.elim
    | exc _ _ _ => exact h.elim
  | err x o =>
    rw [e] at h
    exact fun cls dd H' hc g ex => h cls dd σ H' hc (Go.al R (goV R p g)) ex
  | bad =>
    rw [e] at h
    exact h.elim
theorem callV_spN {m : Mir} {ds : List D} {vs : List V} {Q : VK} (R : Rep X.K Mi σ H δ) (p : DatAll X.K (msk Mi σ δ) H ds vs)
    (h : RunN X W Mi σ H δ ((cellRes (m (ds.map .val)) δ).bind toOwn) Q) : spM X.K X.mg m vs H Q (WE W σ) := by
  refine ⟨msk Mi σ δ, ds.map .val, by rw [List.length_map, p.length], repV R p, argV ds, ?_⟩
  cases e : m (ds.map .val) with
  | ok c o =>
    rw [e] at h
    cases c with
    | val d => exact h.elim
    | own d =>
      have h' : RunN X W Mi σ H δ (.ok d δ) Q := h
      refine fun a H' g n c => h' a H' (Go.alNew R (goV R p g) g.trk n ?_) n ?_
      · obtain ⟨o, eo⟩ := c.some
        rw [eo]
        exact Option.some_ne_none _
      · exact c.mv (Mv.shrink fun b z => z.elim (fun z => z.elim (fun z => .inl (.inl z)) .inr) fun z => .inl (.inr z)) rfl
    | ref d => exact h.elim
    | exc _ _ _ => exact h.elim
  | err x o =>
    rw [e] at h
    exact fun cls dd H' hc g ex => h cls dd σ H' hc (Go.al R (goV R p g)) ex
  | bad =>
    rw [e] at h
    exact h.elim
def fV (m : Mir) (F : Fe (List D)) : Fe D := fun δ => (callV m F δ).bind toVal
def fVO (m : Mir) (F : Fe (List D)) : Fe D := fun δ => (callV m F δ).bind toOwn
theorem fV_eq (m : Mir) (F : Fe (List D)) (g : Cell → DEnv → R D) : (fun δ => (callV m F δ).bind g) = fun δ => (F δ).bind fun ds δ1 => (cellRes (m (ds.map .val)) δ1).bind g := by
  funext δ
  unfold callV
  rw [R.bind_assoc]
variable {k : Nat} {f : Addr} {fd : FuncData} {ps : List Str} {m : Mir} {x : Str} {p pos : Pos} {e : Expr} {es : List Expr} {F : Fe (List D)}
theorem de_call (Fn : FnG X.prog X.w X.K X.mg X.base k f fd ps m) (ok : Ok X k) (tk : Takes X W) (hg : Gl X x) (hm : X.mg x = some (.ref f)) (ha : DA X W (e :: es) F)
    (hdb : (x == ("__debug__" : Str)) = false := by decide +kernel) (he : starEach (e :: es) X.env = (false, eval e X.env) :: starEach es X.env := by rfl) (hpl : (backTo pos (starEach es X.env)).any (·.1) = false := by rfl) :
    DE X W (.Call (.Name x p) (e :: es) [] pos) (fV m F) := by
  refine PE.imp (Fn.call (W := W) ok tk hg hm ha hdb he hpl) fun σ H Q q => ?_
  unfold fV at q
  rw [fV_eq] at q
  obtain ⟨Mi, δ, R, q⟩ := tG_bind (P := pA X) q
  exact ⟨Mi, δ, R, q.imp fun vs H1 ⟨Mi, ds, δ1, R1, p, r⟩ => callV_spM R1 p r⟩
theorem do_call (Fn : FnG X.prog X.w X.K X.mg X.base k f fd ps m) (ok : Ok X k) (tk : Takes X W) (hg : Gl X x) (hm : X.mg x = some (.ref f)) (ha : DA X W (e :: es) F)
    (hdb : (x == ("__debug__" : Str)) = false := by decide +kernel) (he : starEach (e :: es) X.env = (false, eval e X.env) :: starEach es X.env := by rfl) (hpl : (backTo pos (starEach es X.env)).any (·.1) = false := by rfl) :
    DO X W (.Call (.Name x p) (e :: es) [] pos) (fVO m F) := by
  refine PE.imp (Fn.call (W := W) ok tk hg hm ha hdb he hpl) fun σ H Q q => ?_
  unfold fVO at q
  rw [fV_eq] at q
  obtain ⟨Mi, δ, R, q⟩ := tN_bind (P := pA X) q
  exact ⟨Mi, δ, R, q.imp fun vs H1 ⟨Mi, ds, δ1, R1, p, r⟩ => callV_spN R1 p r⟩

/-! #### one argument is lent -/
theorem lend_at {i : Nat} {d : D} {v : V} (R : Rep X.K Mi σ H δ) (h : lendable δ i = some d) (s : σ[i]? = some (some v)) : ∃ a, v = .ref a ∧ msk Mi σ δ a ∧ Cont X.K (msk Mi σ δ) H a d := by
  rcases lend_cell h with c | c
  · obtain ⟨u, eu, a, rfl, n, ct⟩ := R.cell i _ c
    rw [s] at eu
    cases eu
    exact ⟨a, rfl, .inr ⟨i, d, c, s⟩, ct⟩
  · obtain ⟨u, eu, a, rfl, n, ct⟩ := R.cell i _ c
    rw [s] at eu
    cases eu
    exact ⟨a, rfl, .inl n, ct⟩
theorem set_val {ds : List D} {p j : Nat} {c : Cell} {d0 : D} (e : ((((ds.map Cell.val).set p (.ref d0)).map some) : DEnv)[j]? = some (some c)) : (j = p ∧ c = .ref d0 ∧ p < ds.length) ∨ (j ≠ p ∧ ∃ d, ds[j]? = some d ∧ c = .val d) := by
  rw [List.getElem?_map] at e
  cases h : ((ds.map Cell.val).set p (.ref d0))[j]? with
  | none =>
    rw [h] at e
    cases e
  | some c' =>
    rw [h] at e
    have ec : c' = c := Option.some.inj (Option.some.inj e)
    subst ec
    rcases get_set_some h with ⟨rfl, rfl, hl⟩ | ⟨n, z⟩
    · exact .inl ⟨rfl, rfl, by simpa using hl⟩
    · rw [List.getElem?_map] at z
      cases hd : ds[j]? with
      | none =>
        rw [hd] at z
        cases z
      | some d =>
        rw [hd] at z
        exact .inr ⟨n, d, rfl, (Option.some.inj z).symm⟩
theorem repR {i p : Nat} {d0 : D} {ds : List D} {vs : List V} (R : Rep X.K Mi σ H δ) (h : lendable δ i = some d0) (hp : pAp X p i Mi ds σ δ H vs) : Rep X.K (msk Mi σ δ) (vs.map some) H (((ds.map Cell.val).set p (.ref d0)).map some) := by
  obtain ⟨hl, hv, hr⟩ := hp
  have own0 : ∀ a, ¬ Owned (vs.map some) (((ds.map Cell.val).set p (.ref d0)).map some) a := fun a ⟨j, d, e, _⟩ => by
    rcases set_val e with ⟨_, z, _⟩ | ⟨_, _, _, z⟩ <;> cases z
  have m : Mv (msk Mi σ δ) H (msk (msk Mi σ δ) (vs.map some) (((ds.map Cell.val).set p (.ref d0)).map some)) H := Mv.shrink fun a z => z.elim id fun z => absurd z (own0 a)
  have vat : ∀ (j : Nat), j < ds.length → ∃ v, vs[j]? = some v := fun j hj => ⟨_, List.getElem?_eq_getElem (by omega)⟩
  refine ⟨by simp [hl], fun j c e => ?_, fun j k c c' a ne e1 e2 m1 m2 => ?_, fun a z => R.dom' z⟩
  · rcases set_val e with ⟨rfl, rfl, hlt⟩ | ⟨n, d, ed, rfl⟩
    · obtain ⟨v, ev⟩ := vat _ hlt
      obtain ⟨a, rfl, ma, ct⟩ := lend_at R h (hr v ev)
      refine ⟨_, by rw [List.getElem?_map, ev]; rfl, a, rfl, ma, ct.mv m rfl⟩
    · obtain ⟨v, ev⟩ := vat j (List.getElem?_eq_some_iff.mp ed).1
      exact ⟨v, by rw [List.getElem?_map, ev]; rfl, Dat.mv m (hv j d v n ed ev)⟩
  · rcases set_val e1 with ⟨r1, _, _⟩ | ⟨_, _, _, z⟩
    · rcases set_val e2 with ⟨r2, _, _⟩ | ⟨_, _, _, z⟩
      · exact absurd (r1.trans r2.symm) ne
      · subst z
        cases m2
    · subst z
      cases m1
theorem argR (ds : List D) (p : Nat) (d0 : D) : ∀ c ∈ (ds.map Cell.val).set p (.ref d0), c.isArg = true := fun c h => by
  rcases List.mem_or_eq_of_mem_set h with h | rfl
  · exact argV ds c h
  · rfl
/-- behind the call, in the caller's frame -/
theorem goR {Mo Mo' : Msk} {i p : Nat} {d0 : D} {ds : List D} {vs : List V} {o : DEnv} {H' : Hp} (R : Rep X.K Mi σ H δ) (h : lendable δ i = some d0) (hpl : p < ds.length) (hp : pAp X p i Mi ds σ δ H vs)
    (g : Go X.K (msk Mi σ δ) Mo' (vs.map some) H (((ds.map Cell.val).set p (.ref d0)).map some) (vs.map some) H' o) (hM : (Mo = Mi ∧ Mo' = msk Mi σ δ) ∨ ∃ a, Mo = plus Mi a ∧ Mo' = plus (msk Mi σ δ) a ∧ H a = none ∧ H' a ≠ none) :
    Go X.K Mi Mo σ H δ σ H' (unlend i p o δ) ∧ msk Mo σ (unlend i p o δ) = Mo' := by
  obtain ⟨hl, hv, hr⟩ := hp
  have own0 : ∀ a, ¬ Owned (vs.map some) (((ds.map Cell.val).set p (.ref d0)).map some) a := fun a ⟨j, d, e, _⟩ => by
    rcases set_val e with ⟨_, z, _⟩ | ⟨_, _, _, z⟩ <;> cases z
  obtain ⟨v, ev⟩ : ∃ v, vs[p]? = some v := ⟨_, List.getElem?_eq_getElem (by omega)⟩
  have sv := hr v ev
  obtain ⟨b, rfl, mb, ct⟩ := lend_at R h sv
  have hcp : ((((ds.map Cell.val).set p (.ref d0)).map some) : DEnv)[p]? = some (some (.ref d0)) := by
    rw [List.getElem?_map, List.getElem?_set_self (by simpa using hpl)]
    rfl
  have lentIs : ∀ a, Lent (vs.map some) (((ds.map Cell.val).set p (.ref d0)).map some) a → a = b := fun a ⟨j, d, e, s⟩ => by
    rcases set_val e with ⟨rfl, _, _⟩ | ⟨_, _, _, z⟩
    · rw [List.getElem?_map, ev] at s
      exact (V.ref.inj (Option.some.inj (Option.some.inj s))).symm
    · cases z
  have keep : ∀ a u, a ≠ b → H a = some u → H' a = some u := fun a u n e => g.stab a u (own0 a) (fun z => n (lentIs a z)) e
  -- the lent one afterwards
  obtain ⟨_, d', eo⟩ := g.lent p ⟨d0, hcp⟩
  obtain ⟨v2, ev2, b2, e2, mb2, ct2⟩ := g.rep.cell p _ eo
  have ev2' : some (V.ref b) = some v2 := by
    rw [List.getElem?_map, ev] at ev2
    exact Option.some.inj ev2
  subst e2
  cases ev2'
  obtain ⟨c, ec, hc⟩ : ∃ c, δ[i]? = some (some c) ∧ (c = .own d0 ∨ c = .ref d0) := by
    rcases lend_cell h with z | z
    · exact ⟨_, z, .inl rfl⟩
    · exact ⟨_, z, .inr rfl⟩
  have eδ : unlend i p o δ = δ.set i (some (upCell c d')) := by
    unfold unlend
    rw [eo, ec]
  rw [eδ]
  have hi : i < δ.length := (List.getElem?_eq_some_iff.mp ec).1
  have hm : c.isMut = true := by
    rcases hc with z | z <;> (subst z; rfl)
  have own_ : ∀ a, Owned σ (δ.set i (some (upCell c d'))) a ↔ Owned σ δ a := fun a => by
    constructor
    · rintro ⟨j, d2, e1, e2⟩
      rcases get_set_some e1 with ⟨rfl, z, _⟩ | ⟨ne, z⟩
      · rcases hc with y | y
        · subst y
          exact ⟨_, d0, ec, e2⟩
        · subst y
          cases z
      · exact ⟨j, d2, z, e2⟩
    · rintro ⟨j, d2, e1, e2⟩
      by_cases q : j = i
      · subst q
        rw [ec] at e1
        cases e1
        exact ⟨j, d', List.getElem?_set_self hi, e2⟩
      · refine ⟨j, d2, ?_, e2⟩
        rw [List.getElem?_set_ne (Ne.symm q)]
        exact e1
  have mk : msk Mo σ (δ.set i (some (upCell c d'))) = Mo' := by
    funext a
    refine propext ?_
    rcases hM with ⟨rfl, rfl⟩ | ⟨q, rfl, rfl, _, _⟩
    · exact ⟨fun z => z.elim .inl fun z => .inr ((own_ a).mp z), fun z => z.elim .inl fun z => .inr ((own_ a).mpr z)⟩
    · constructor
      · rintro ((z | z) | z)
        · exact .inl (.inl z)
        · exact .inr z
        · exact .inl (.inr ((own_ a).mp z))
      · rintro ((z | z) | z)
        · exact .inl (.inl z)
        · exact .inr ((own_ a).mpr z)
        · exact .inl (.inr z)
  have sub1 : ∀ a u, H a = some u → ¬ msk Mi σ δ a → ¬ Mo' a := fun a u e n => by
    rcases hM with ⟨rfl, rfl⟩ | ⟨q, rfl, rfl, z, _⟩
    · exact n
    · rintro (y | y)
      · exact n y
      · rw [y, z] at e
        cases e
  have sub2 : ∀ a u, H a = some u → ¬ Mi a → ¬ Mo a := fun a u e n => by
    rcases hM with ⟨rfl, rfl⟩ | ⟨q, rfl, rfl, z, _⟩
    · exact n
    · rintro (y | y)
      · exact n y
      · rw [y, z] at e
        cases e
  have sub3 : ∀ a, Mi a → Mo a := fun a z => by
    rcases hM with ⟨rfl, rfl⟩ | ⟨q, rfl, rfl, _, _⟩
    · exact z
    · exact .inl z
  have mv1 : Mv (msk Mi σ δ) H Mo' H' := fun a u n e => ⟨sub1 a u e n, keep a u (fun z => n (z ▸ mb)) e⟩
  have isOwn : Owned σ δ b ∨ Lent σ δ b := by
    rcases hc with z | z
    · subst z
      exact .inl ⟨i, d0, ec, sv⟩
    · subst z
      exact .inr ⟨i, d0, ec, sv⟩
  have trb : ∃ u, H b = some u := ct.some
  have ctb : Cont X.K Mo' H' b d' := ct2.mv (Mv.shrink fun a z => .inl z) rfl
  refine ⟨⟨⟨by rw [List.length_set]; exact R.len, fun j c' e' => ?_, fun j k c1 c2 a ne e1 e2 m1 m2 s1 s2 => ?_, fun a z q => ?_⟩, fun a u n1 n2 q => ?_, fun a z => .inl ((own_ a).mp z), fun j ⟨d2, q⟩ => ?_, fun j ⟨d2, q⟩ => ?_, g.trk⟩, mk⟩
  · rw [mk]
    rcases get_set_some e' with ⟨rfl, z, _⟩ | ⟨ne, z⟩
    · refine ⟨.ref b, sv, ?_⟩
      obtain ⟨u, eu, r⟩ := R.cell j c ec
      rw [sv] at eu
      cases eu
      obtain ⟨w, ew⟩ := trb
      rcases hc with y | y
      · subst y
        cases z
        obtain ⟨a, ea, na, _⟩ := r
        cases ea
        exact ⟨b, rfl, sub2 b w ew na, ctb⟩
      · subst y
        cases z
        obtain ⟨a, ea, na, _⟩ := r
        cases ea
        exact ⟨b, rfl, sub3 b na, ctb⟩
    · obtain ⟨u, eu, r⟩ := R.cell j c' z
      have far : ∀ a, c'.isMut = true → u = .ref a → a ≠ b := fun a hm' ev q => by
        subst ev
        subst q
        exact R.sep j i c' c a ne z ec hm' hm eu sv
      refine ⟨u, eu, r.mv mv1 (fun a o2 _ _ eo2 n => sub2 a o2 eo2 n) (fun a _ n _ => sub3 a n) fun a hm' ev => ?_⟩
      have : ∃ w, H a = some w := by
        cases c' with
        | val d => cases hm'
        | own d =>
          obtain ⟨b2, e2, _, q⟩ := r
          rw [ev] at e2
          cases e2
          exact q.some
        | ref d =>
          obtain ⟨b2, e2, _, q⟩ := r
          rw [ev] at e2
          cases e2
          exact q.some
        | exc _ _ _ => cases hm'
      obtain ⟨w, ew⟩ := this
      rw [keep a w (far a hm' ev) ew, ew]
  · have back : ∀ {j : Nat} {c1 : Cell}, (δ.set i (some (upCell c d')))[j]? = some (some c1) → c1.isMut = true → ∃ c0 : Cell, δ[j]? = some (some c0) ∧ c0.isMut = true := fun {j c1} q mq => by
      rcases get_set_some q with ⟨rfl, z, _⟩ | ⟨_, z⟩
      · exact ⟨c, ec, hm⟩
      · exact ⟨c1, z, mq⟩
    obtain ⟨c3, q3, m3⟩ := back e1 m1
    obtain ⟨c4, q4, m4⟩ := back e2 m2
    exact R.sep j k c3 c4 a ne q3 q4 m3 m4 s1 s2
  · rcases hM with ⟨rfl, rfl⟩ | ⟨q2, rfl, rfl, _, z2⟩
    · exact R.dom a z (g.trk a q)
    · rcases z with z | z
      · exact R.dom a z (g.trk a q)
      · rw [z] at q
        exact z2 q
  · exact keep a u (fun z => isOwn.elim (fun y => n1 (by rw [z]; exact y)) fun y => n2 (by rw [z]; exact y)) q
  · refine ⟨rfl, ?_⟩
    by_cases z : j = i
    · subst z
      rw [ec] at q
      cases q
      exact ⟨d', List.getElem?_set_self hi⟩
    · refine ⟨d2, ?_⟩
      rw [List.getElem?_set_ne (Ne.symm z)]
      exact q
  · rcases get_set_some q with ⟨rfl, z, _⟩ | ⟨_, z⟩
    · rcases hc with y | y
      · subst y
        cases z
      · subst y
        exact ⟨d0, ec⟩
    · exact ⟨d2, z⟩
def cellResR (i p : Nat) : RF → DEnv → R Cell
  | .ok c o, δ => .ok c (unlend i p o δ)
  | .err x o, δ => .err x (unlend i p o δ)
  | .bad, _ => .bad
theorem callR_spM {m : Mir} {i p : Nat} {d0 : D} {ds : List D} {vs : List V} {Q : VK} (R : Rep X.K Mi σ H δ) (hl : lendable δ i = some d0) (hpl : p < ds.length) (hp : pAp X p i Mi ds σ δ H vs)
    (h : RunG X W (pD X) Mi σ H δ ((cellResR i p (m ((ds.map Cell.val).set p (.ref d0))) δ).bind toVal) Q) : spM X.K X.mg m vs H Q (WE W σ) := by
  refine ⟨msk Mi σ δ, (ds.map .val).set p (.ref d0), by rw [List.length_set, List.length_map, hp.1], repR R hl hp, argR ds p d0, ?_⟩
  cases e : m ((ds.map .val).set p (.ref d0)) with
  | ok c o =>
    rw [e] at h
    cases c with
    | val d =>
      refine fun v H' g dv => ?_
      obtain ⟨g2, mk⟩ := goR (Mo := Mi) R hl hpl hp g (.inl ⟨rfl, rfl⟩)
      exact h v H' g2 (by rw [← mk] at dv; exact dv)
    | own d =>
      have h' : RunG X W (pD X) Mi σ H δ (.ok d (unlend i p o δ)) Q := h
      refine fun a H' g n c => ?_
      obtain ⟨u, eu⟩ := c.some
      obtain ⟨g2, mk⟩ := goR (Mo := plus Mi a) R hl hpl hp g (.inr ⟨a, rfl, rfl, n, by rw [eu]; exact Option.some_ne_none _⟩)
      refine h' _ H' (g2.drop R n) (g2.given R n ?_)
      rw [mk]
      exact c
    | ref d => exact h.elim
    | exc _ _ _ => exact h.elim
  | err x o =>
    rw [e] at h
    refine fun cls dd H' hc g ex => ?_
    obtain ⟨g2, mk⟩ := goR (Mo := Mi) R hl hpl hp g (.inl ⟨rfl, rfl⟩)
    exact h cls dd σ H' hc g2 (by rw [mk]; exact ex)
  | bad =>
    rw [e] at h
    exact h.elim
theorem callR_spN {m : Mir} {i p : Nat} {d0 : D} {ds : List D} {vs : List V} {Q : VK} (R : Rep X.K Mi σ H δ) (hl : lendable δ i = some d0) (hpl : p < ds.length) (hp : pAp X p i Mi ds σ δ H vs)
    (h : RunN X W Mi σ H δ ((cellResR i p (m ((ds.map Cell.val).set p (.ref d0))) δ).bind toOwn) Q) : spM X.K X.mg m vs H Q (WE W σ) := by
  refine ⟨msk Mi σ δ, (ds.map .val).set p (.ref d0), by rw [List.length_set, List.length_map, hp.1], repR R hl hp, argR ds p d0, ?_⟩
  cases e : m ((ds.map .val).set p (.ref d0)) with
  | ok c o =>
    rw [e] at h
    cases c with
    | val d => exact h.elim
    | own d =>
      have h' : RunN X W Mi σ H δ (.ok d (unlend i p o δ)) Q := h
      refine fun a H' g n c => ?_
      obtain ⟨u, eu⟩ := c.some
      obtain ⟨g2, mk⟩ := goR (Mo := plus Mi a) R hl hpl hp g (.inr ⟨a, rfl, rfl, n, by rw [eu]; exact Option.some_ne_none _⟩)
      refine h' a H' g2 n ?_
      rw [mk]
      exact c
    | ref d => exact h.elim
    | exc _ _ _ => exact h.elim
  | err x o =>
    rw [e] at h
    refine fun cls dd H' hc g ex => ?_
    obtain ⟨g2, mk⟩ := goR (Mo := Mi) R hl hpl hp g (.inl ⟨rfl, rfl⟩)
    exact h cls dd σ H' hc g2 (by rw [mk]; exact ex)
  | bad =>
    rw [e] at h
    exact h.elim
/-- a call with a lent slot: i, at the place p -/
def fR (m : Mir) (p i : Nat) (g : Cell → DEnv → R D) (F : Fe (List D)) : Fe D := fun δ => (F δ).bind fun ds δ1 =>
  match lendable δ1 i with
  | some d => if p < ds.length then (cellResR i p (m ((ds.map Cell.val).set p (.ref d))) δ1).bind g else .bad
  | none => .bad
theorem de_callR {i q : Nat} (Fn : FnG X.prog X.w X.K X.mg X.base k f fd ps m) (ok : Ok X k) (tk : Takes X W) (hg : Gl X x) (hm : X.mg x = some (.ref f)) (ha : DAp X W q i (e :: es) F)
    (hdb : (x == ("__debug__" : Str)) = false := by decide +kernel) (he : starEach (e :: es) X.env = (false, eval e X.env) :: starEach es X.env := by rfl) (hpl : (backTo pos (starEach es X.env)).any (·.1) = false := by rfl) :
    DE X W (.Call (.Name x p) (e :: es) [] pos) (fR m q i toVal F) := by
  refine PE.imp (Fn.call (W := W) ok tk hg hm ha hdb he hpl) fun σ H Q qq => ?_
  obtain ⟨Mi, δ, R, qq⟩ := tG_bind (P := pAp X q i) qq
  refine ⟨Mi, δ, R, qq.imp fun vs H1 ⟨Mi, ds, δ1, R1, p, r⟩ => ?_⟩
  cases hl : lendable δ1 i with
  | none =>
    rw [hl] at r
    exact False.elim r
  | some d =>
    rw [hl] at r
    have r' : RunG X W (pD X) Mi σ H1 δ1 (if q < ds.length then (cellResR i q (m ((ds.map Cell.val).set q (.ref d))) δ1).bind toVal else .bad) Q := r
    split at r'
    · rename_i hlt
      exact callR_spM R1 hl hlt p r'
    · exact r'.elim
theorem do_callR {i q : Nat} (Fn : FnG X.prog X.w X.K X.mg X.base k f fd ps m) (ok : Ok X k) (tk : Takes X W) (hg : Gl X x) (hm : X.mg x = some (.ref f)) (ha : DAp X W q i (e :: es) F)
    (hdb : (x == ("__debug__" : Str)) = false := by decide +kernel) (he : starEach (e :: es) X.env = (false, eval e X.env) :: starEach es X.env := by rfl) (hpl : (backTo pos (starEach es X.env)).any (·.1) = false := by rfl) :
    DO X W (.Call (.Name x p) (e :: es) [] pos) (fR m q i toOwn F) := by
  refine PE.imp (Fn.call (W := W) ok tk hg hm ha hdb he hpl) fun σ H Q qq => ?_
  obtain ⟨Mi, δ, R, qq⟩ := tN_bind (P := pAp X q i) qq
  refine ⟨Mi, δ, R, qq.imp fun vs H1 ⟨Mi, ds, δ1, R1, p, r⟩ => ?_⟩
  cases hl : lendable δ1 i with
  | none =>
    rw [hl] at r
    exact False.elim r
  | some d =>
    rw [hl] at r
    have r' : RunN X W Mi σ H1 δ1 (if q < ds.length then (cellResR i q (m ((ds.map Cell.val).set q (.ref d))) δ1).bind toOwn else .bad) Q := r
    split at r'
    · rename_i hlt
      exact callR_spN R1 hl hlt p r'
    · exact r'.elim
end
end Dl

set_option Elab.async false
set_option linter.all false
set_option maxRecDepth 100000
namespace Dl
open PySem PySem.Spec PyProof.Rows L2
section
variable {X : Cx} {W : WX} {Mi : Msk} {σ : St} {H H1 : Hp} {δ δ1 : DEnv}

/-! ### containers changed in place: the slot v has it for its own, or it is lent -/
theorem Mv.updM {M : Msk} {p : Addr} {o : HO} (h : M p) : Mv M H M (upd H p o) := fun a u n e => ⟨n, by
  rw [upd_ne (b := a) fun z => n (by rw [z]; exact h)]
  exact e⟩
theorem lend_slot {v : Nat} {d : D} (R : Rep X.K Mi σ H δ) (h : lendable δ v = some d) : ∃ a c, σ[v]? = some (some (.ref a)) ∧ δ[v]? = some (some c) ∧ (c = .own d ∨ c = .ref d) ∧ msk Mi σ δ a ∧ Cont X.K (msk Mi σ δ) H a d := by
  rcases lend_cell h with c | c
  · obtain ⟨u, eu, a, rfl, n, ct⟩ := R.cell v _ c
    exact ⟨a, _, eu, c, .inl rfl, .inr ⟨v, d, c, eu⟩, ct⟩
  · obtain ⟨u, eu, a, rfl, n, ct⟩ := R.cell v _ c
    exact ⟨a, _, eu, c, .inr rfl, .inl n, ct⟩
/-- the slot's container becomes d -/
def putD (v : Nat) (d : D) (δ : DEnv) : DEnv :=
  match δ[v]? with
  | some (some c) => δ.set v (some (upCell c d))
  | _ => δ
theorem putD_eq {v : Nat} {d : D} {c : Cell} (h : δ[v]? = some (some c)) : putD v d δ = δ.set v (some (upCell c d)) := by
  unfold putD
  rw [h]
theorem hasSlot {v : Nat} {d : D} (R : Rep X.K Mi σ H δ) (h : lendable δ v = some d) : ∃ a, σ[v]? = some (some (.ref a)) := by
  obtain ⟨a, c, s, _⟩ := lend_slot R h
  exact ⟨a, s⟩
def onList (v : Nat) (δ : DEnv) (g : List D → RS) : RS :=
  match lendable δ v with
  | some (.list ds) => g ds
  | _ => .bad
/-- x[i] = e -/
def sItem (v : Nat) (Fi F : Fe D) : Fs := fun δ => (F δ).bindS fun d δ1 =>
  if (lendable δ1 v).isSome = true then (Fi δ1).bindS fun k δ2 => onList v δ2 fun ds =>
    match k with
    | .int j => match ixN ds.length j with
      | some jn => .next (putD v (.list (ds.set jn d)) δ2)
      | none => .bad
    | _ => .bad
  else .bad
variable {e i : Expr} {x : Str} {pos p p2 p3 : Pos} {Fv Fi : Fe D}
theorem ds_item {v : Nat} (hN : X.N[v]? = some x) (hv : Vis X.env.scope x) (hi : DE X W i Fi) (h : DE X W e Fv) (hs : swapsWithSole [.Subscript (.Name x p) i p2] e pos.line X.env = pure false := by rfl) (hw : swappedStores [.Subscript (.Name x p) i p2] e X.env = pure none := by rfl)
    (h1 : (assignEach [.Subscript (.Name x p) i p2] X.env).map (fun x => x.2) = [assign (.Subscript (.Name x p) i p2) X.env] := by rfl) (hps : PG X (.Subscript (.Name x p) i p2) (gSub (tVar v) (tG X W (pD X) Fi) rSetL)) : DS X W (.Assign [.Subscript (.Name x p) i p2] e pos) (sItem v Fi Fv) := by
  refine PS.imp (ps_asg h hps hs hw h1) fun σ H E q => ?_
  obtain ⟨Mi, δ, R, q⟩ := tS_bind (P := pD X) q
  refine ⟨Mi, δ, R, q.imp fun u H1 ⟨Mi, d, δ1, R1, pd, r⟩ => ?_⟩
  split at r
  · rename_i hl
    obtain ⟨d0, hl⟩ := Option.isSome_iff_exists.mp hl
    obtain ⟨a, sa⟩ := hasSlot R1 hl
    refine ⟨.ref a, sa, Mi, δ1, R1, (RunS.bind (P := pD X) r).imp fun w H2 ⟨k, δ2, g2, pk, r2⟩ => ?_⟩
    have pd2 := stays_D _ _ _ _ _ _ _ _ R1 g2 pd
    unfold onList at r2
    split at r2
    · rename_i ds hl2
      dsimp only at r2
      obtain ⟨a2, c, sa2, ec, hc, ma, ct⟩ := lend_slot g2.rep hl2
      rw [sa] at sa2
      cases sa2
      obtain ⟨xs, ex, rx⟩ := ct
      split at r2
      · rename_i j
        split at r2
        · rename_i jn ej
          have pk' : Dat X.K (msk Mi σ δ2) H2 (.int j) w := pk
          simp only [Dat] at pk'
          refine ⟨a, xs, j, jn, rfl, pk', ex, by rw [rx.length]; exact ej, r2 σ _ ?_⟩
          rw [putD_eq ec]
          exact Go.write g2.rep ec hc sa ⟨_, upd_same, (rx.set jn pd2).mv (Mv.updM ma)⟩
        · exact False.elim r2
      · exact False.elim r2
    · exact False.elim r2
  · exact False.elim r
theorem pget_list : PGet X (fun o i H Q => ∃ p xs k v, o = .ref p ∧ i = .int k ∧ Rd H p (.lst xs) ∧ 0 ≤ k ∧ xs[k.toNat]? = some v ∧ Q v H) := by
  intro pins s σ H o i ov iv Q I ro ri ⟨p, xs, k, v, e1, e2, hp, h0, hk, q⟩
  subst e1 e2
  cases ro
  obtain ⟨t, rfl⟩ := ri
  obtain ⟨z, its, n, r, hl, eo⟩ := rd_list I (.inl hp)
  obtain ⟨u, eu, ru⟩ := r.get hk
  have hlt := (List.getElem?_eq_some_iff.mp hk).1
  have : sizeLine < 2 ^ 63 := by decide
  exact wpAny_getItem_list ⟨_, eo, rfl, _, rfl⟩ h0 (by omega) (by simpa using eu) ⟨v, H, I, ru, q⟩
/-- x[i] += e, of ints; f: + or - -/
def sAugI (v : Nat) (f : Int → Int → Int) (Fi F : Fe D) : Fs := fun δ =>
  if (lendable δ v).isSome = true then (Fi δ).bindS fun k δ1 => onList v δ1 fun ds =>
    match k with
    | .int j => if 0 ≤ j then
        match ds[j.toNat]? with
        | some (.int old) => (F δ1).bindS fun d δ2 => onList v δ2 fun ds2 =>
          match d with
          | .int y => if ds2.length = ds.length then .next (putD v (.list (ds2.set j.toNat (.int (f old y)))) δ2) else .bad
          | _ => .bad
        | _ => .bad
      else .bad
    | _ => .bad
  else .bad
theorem ds_augI {v : Nat} {op : Operator} {f : Int → Int → Int} (ho : PIp X op (ipI f)) (hN : X.N[v]? = some x) (hv : Vis X.env.scope x) (hi : DE X W i Fi) (h : DE X W e Fv) (hd : (x == ("__debug__" : Str)) = false := by decide +kernel) (hcd : (x == ("__classdict__" : Str)) = false := by decide +kernel)
    (ha : ∀ ov iv new, augStore i ov iv new = (do holding [new, ov, iv] (setItem ov iv new); release [new, ov, iv] []; pure .next) := by intros; rfl) : DS X W (.AugAssign (.Subscript (.Name x p) i p2) op e pos) (sAugI v f Fi Fv) := by
  refine PS.imp (ps_augS (pe_var hN hv hd hcd) hi pget_list h ho set_list ha) fun σ H E ⟨Mi, δ, R, q⟩ => ?_
  unfold sAugI at q
  split at q
  · rename_i hl
    obtain ⟨d0, hl⟩ := Option.isSome_iff_exists.mp hl
    obtain ⟨a, sa⟩ := hasSlot R hl
    refine ⟨.ref a, sa, Mi, δ, R, (RunS.bind (P := pD X) q).imp fun w H2 ⟨k, δ2, g2, pk, r2⟩ => ?_⟩
    unfold onList at r2
    split at r2
    · rename_i ds hl2
      dsimp only at r2
      obtain ⟨a2, c, sa2, ec, hc, ma, ct⟩ := lend_slot g2.rep hl2
      rw [sa] at sa2
      cases sa2
      obtain ⟨xs, ex, rx⟩ := ct
      split at r2
      · rename_i j
        have pk' : Dat X.K (msk Mi σ δ2) H2 (.int j) w := pk
        simp only [Dat] at pk'
        split at r2
        · rename_i h0
          split at r2
          · rename_i old eo
            obtain ⟨ov, eov, dov⟩ := rx.get eo
            simp only [Dat] at dov
            refine ⟨a, xs, j, ov, rfl, pk', .inl ex, h0, eov, Mi, δ2, g2.rep, (RunS.bind (P := pD X) r2).imp fun u H3 ⟨d, δ3, g3, pd, r3⟩ => ?_⟩
            split at r3
            · rename_i ds3 hl3
              obtain ⟨a3, c3, sa3, ec3, hc3, ma3, ct3⟩ := lend_slot g3.rep hl3
              rw [sa] at sa3
              cases sa3
              obtain ⟨xs3, ex3, rx3⟩ := ct3
              split at r3
              · rename_i y
                have pd' : Dat X.K (msk Mi σ δ3) H3 (.int y) u := pd
                simp only [Dat] at pd'
                split at r3
                · rename_i hlen
                  have hj : j.toNat < ds.length := (List.getElem?_eq_some_iff.mp eo).1
                  refine ⟨old, y, dov, pd', a, xs3, j, j.toNat, rfl, pk', ex3, ?_, r3 σ _ ?_⟩
                  · unfold ixN
                    rw [if_pos h0, if_pos (by rw [rx3.length]; omega)]
                  · rw [putD_eq ec3]
                    exact Go.write g3.rep ec3 hc3 sa ⟨_, upd_same, (rx3.set j.toNat .mkInt).mv (Mv.updM ma3)⟩
                · exact False.elim r3
              · exact False.elim r3
            · exact False.elim r3
          · exact False.elim r2
        · exact False.elim r2
      · exact False.elim r2
    · exact False.elim r2
  · exact q.elim
def isLst (δ : DEnv) (v : Nat) : Bool :=
  match lendable δ v with
  | some (.list _) => true
  | _ => false
theorem isLst_un {v : Nat} (h : isLst δ v = true) : ∃ ds, lendable δ v = some (.list ds) := by
  unfold isLst at h
  split at h
  · rename_i ds e
    exact ⟨ds, e⟩
  · cases h
/-- x.append(e) -/
def sApp (v : Nat) (F : Fe D) : Fs := fun δ =>
  if isLst δ v = true then (F δ).bindS fun d δ1 => onList v δ1 fun ds => if ds.length < 1000000 then .next (putD v (.list (ds ++ [d])) δ1) else .bad
  else .bad
theorem ds_app {v : Nat} (hp : PS X (.Expr (.Call (.Attribute (.Name x p) "append" p2) [e] [] p3) pos) (tDrop (tBM X.K "list" rAppend (tVar v) (tCons (tG X W (pD X) Fv) tNil)))) : DS X W (.Expr (.Call (.Attribute (.Name x p) "append" p2) [e] [] p3) pos) (sApp v Fv) := by
  refine PS.imp hp fun σ H E ⟨Mi, δ, R, q⟩ => ?_
  unfold sApp at q
  split at q
  · rename_i hl
    obtain ⟨d0, hl⟩ := isLst_un hl
    obtain ⟨a, sa⟩ := hasSlot R hl
    obtain ⟨a0, c0, sa0, ec0, hc0, ma0, ct0⟩ := lend_slot R hl
    rw [sa] at sa0
    cases sa0
    refine ⟨.ref a, sa, ?_, Mi, δ, R, (RunS.bind (P := pD X) q).imp fun w H2 ⟨d, δ2, g2, pd, r2⟩ => ?_⟩
    · obtain ⟨xs, ex, _⟩ := ct0
      exact .inl ⟨rfl, xs, .inl (.inl ex)⟩
    · unfold onList at r2
      split at r2
      · rename_i ds hl2
        dsimp only at r2
        obtain ⟨a2, c, sa2, ec, hc, ma, ct⟩ := lend_slot g2.rep hl2
        rw [sa] at sa2
        cases sa2
        obtain ⟨xs, ex, rx⟩ := ct
        split at r2
        · rename_i hlt
          refine ⟨a, xs, w, rfl, rfl, ex, ?_, r2 σ _ ?_⟩
          · rw [rx.length]
            exact Nat.lt_of_lt_of_le hlt (by decide)
          · rw [putD_eq ec]
            exact Go.write g2.rep ec hc sa ⟨_, upd_same, (rx.append (.cons pd .nil)).mv (Mv.updM ma)⟩
        · exact False.elim r2
      · exact False.elim r2
  · exact q.elim

/-! ### comprehensions -/
def wipeE (δ : DEnv) : List Nat → DEnv
  | [] => δ
  | v :: vs => (wipeE δ vs).set v none
theorem wipeE_get {δ : DEnv} {j : Nat} {c : Cell} : ∀ {vs : List Nat}, (wipeE δ vs)[j]? = some (some c) → j ∉ vs ∧ δ[j]? = some (some c)
  | [], h => ⟨by simp, h⟩
  | v :: vs, h => by
    rcases get_set_some (show ((wipeE δ vs).set v none)[j]? = some (some c) from h) with ⟨_, z, _⟩ | ⟨n, z⟩
    · cases z
    · obtain ⟨h1, h2⟩ := wipeE_get z
      exact ⟨fun y => by
        rcases List.mem_cons.mp y with y | y
        · exact n y
        · exact h1 y, h2⟩
theorem wipeE_keep {δ : DEnv} {j : Nat} {c : Cell} : ∀ {vs : List Nat}, j ∉ vs → δ[j]? = some (some c) → (wipeE δ vs)[j]? = some (some c)
  | [], _, h => h
  | v :: vs, n, h => by
    show ((wipeE δ vs).set v none)[j]? = some (some c)
    rw [List.getElem?_set_ne (fun z => n (by simp [z]))]
    exact wipeE_keep (fun z => n (List.mem_cons_of_mem _ z)) h
theorem wipeE_len (δ : DEnv) : ∀ vs : List Nat, (wipeE δ vs).length = δ.length
  | [] => rfl
  | v :: vs => by
    show ((wipeE δ vs).set v none).length = _
    rw [List.length_set, wipeE_len δ vs]
/-- the slots hold nothing that may be changed -/
def calmAt (δ : DEnv) (vs : List Nat) : Bool := vs.all fun v =>
  match δ[v]? with
  | some (some (.own _)) => false
  | some (some (.ref _)) => false
  | _ => true
/-- .. and hold what they held -/
def back (δ0 : DEnv) : List Nat → DEnv → DEnv
  | [], δ => δ
  | v :: vs, δ => match δ0[v]? with
    | some x => (back δ0 vs δ).set v x
    | none => back δ0 vs δ
theorem back_get {δ0 δ : DEnv} {j : Nat} {c : Cell} : ∀ {vs : List Nat}, (back δ0 vs δ)[j]? = some (some c) → (j ∈ vs ∧ δ0[j]? = some (some c)) ∨ (j ∉ vs ∧ δ[j]? = some (some c)) ∨ (δ[j]? = some (some c) ∧ δ0[j]? = none)
  | [], h => .inr (.inl ⟨by simp, h⟩)
  | v :: vs, h => by
    unfold back at h
    split at h
    · rename_i x e
      rcases get_set_some h with ⟨rfl, z, _⟩ | ⟨n, z⟩
      · rw [← z] at e
        exact .inl ⟨List.mem_cons_self, e⟩
      · rcases back_get z with ⟨h1, h2⟩ | ⟨h1, h2⟩ | h1
        · exact .inl ⟨List.mem_cons_of_mem _ h1, h2⟩
        · exact .inr (.inl ⟨fun y => by
            rcases List.mem_cons.mp y with y | y
            · exact n y
            · exact h1 y, h2⟩)
        · exact .inr (.inr h1)
    · rename_i e
      rcases back_get h with ⟨h1, h2⟩ | ⟨h1, h2⟩ | h1
      · exact .inl ⟨List.mem_cons_of_mem _ h1, h2⟩
      · by_cases y : j = v
        · subst y
          exact .inr (.inr ⟨h2, e⟩)
        · exact .inr (.inl ⟨fun z => by
            rcases List.mem_cons.mp z with z | z
            · exact y z
            · exact h1 z, h2⟩)
      · exact .inr (.inr h1)
theorem back_keep {δ0 δ : DEnv} {j : Nat} {c : Cell} : ∀ {vs : List Nat}, j ∉ vs → δ[j]? = some (some c) → (back δ0 vs δ)[j]? = some (some c)
  | [], _, h => h
  | v :: vs, n, h => by
    have ih := back_keep (δ0 := δ0) (vs := vs) (fun z => n (List.mem_cons_of_mem _ z)) h
    unfold back
    split
    · rw [List.getElem?_set_ne (fun z => n (by simp [z]))]
      exact ih
    · exact ih
theorem back_len (δ0 δ : DEnv) : ∀ vs : List Nat, (back δ0 vs δ).length = δ.length
  | [] => rfl
  | v :: vs => by
    unfold back
    split
    · rw [List.length_set, back_len δ0 δ vs]
    · exact back_len δ0 δ vs
theorem calmAt_un {vs : List Nat} (h : calmAt δ vs = true) {j : Nat} {c : Cell} (hj : j ∈ vs) (e : δ[j]? = some (some c)) : c.isMut = false := by
  have := List.all_eq_true.mp h j hj
  rw [e] at this
  cases c with
  | val d => rfl
  | own d => cases this
  | ref d => cases this
  | exc _ _ _ => rfl
variable {Mo : Msk} {σ' : St} {H' : Hp} {δ' : DEnv} {K : PySem.W.Frag}
/-- slots of a state forgotten; the values agree elsewhere -/
theorem Go.wiped {vs : List Nat} {σw : St} (g : Go K Mi Mo σ H δ σ' H' δ') (hl : σ'.length ≤ σw.length) (hσ : ∀ j, j ∉ vs → σw[j]? = σ'[j]?) (hr : ∀ j ∈ vs, isRef δ[j]? = false) : Go K Mi Mo σ H δ σw H' (wipeE δ' vs) := by
  have own_ : ∀ a, Owned σw (wipeE δ' vs) a → Owned σ' δ' a := fun a ⟨j, d, e, s⟩ => by
    obtain ⟨h1, h2⟩ := wipeE_get e
    rw [hσ j h1] at s
    exact ⟨j, d, h2, s⟩
  have m : Mv (msk Mo σ' δ') H' (msk Mo σw (wipeE δ' vs)) H' := Mv.shrink fun a z => z.elim .inl fun z => .inr (own_ a z)
  refine ⟨⟨by rw [wipeE_len]; exact Nat.le_trans g.rep.len hl, fun j c e => ?_, fun i j c c' a ne e1 e2 m1 m2 s1 s2 => ?_, g.rep.dom⟩, g.stab, fun a z => g.own a (own_ a z), fun j ⟨d, e⟩ => ?_, fun j ⟨d, e⟩ => ?_, g.trk⟩
  · obtain ⟨h1, h2⟩ := wipeE_get e
    obtain ⟨v, ev, r⟩ := g.rep.cell j c h2
    exact ⟨v, by rw [hσ j h1]; exact ev, r.mv m (fun _ _ _ _ _ n => n) (fun _ _ z _ => z) fun _ _ _ => rfl⟩
  · obtain ⟨h1, h2⟩ := wipeE_get e1
    obtain ⟨h3, h4⟩ := wipeE_get e2
    rw [hσ i h1] at s1
    rw [hσ j h3] at s2
    exact g.rep.sep i j c c' a ne h2 h4 m1 m2 s1 s2
  · have nj : j ∉ vs := fun z => by
      have := hr j z
      rw [e] at this
      cases this
    obtain ⟨q, d', e'⟩ := g.lent j ⟨d, e⟩
    exact ⟨(hσ j nj).trans q, d', wipeE_keep nj e'⟩
  · exact g.lentB j ⟨d, (wipeE_get e).2⟩
/-- .. and found again -/
theorem Go.backed {vs : List Nat} {σw : St} (R : Rep K Mi σ H δ) (g : Go K Mi Mo σ H δ σw H' δ') (hm : ∀ a, Mo a → msk Mi σ δ a ∨ H a = none) (hc : calmAt δ vs = true) (hσ : ∀ j, j ∉ vs → σw[j]? = σ[j]?) (hl : δ'.length = δ.length) : Go K Mi Mo σ H δ σ H' (back δ vs δ') := by
  have dead : ∀ {j c}, δ'[j]? = some (some c) → δ[j]? ≠ none := fun {j c} e z => by
    have h1 := (List.getElem?_eq_some_iff.mp e).1
    have h2 := List.getElem?_eq_none_iff.mp z
    omega
  have get_ : ∀ {j : Nat} {c : Cell}, (back δ vs δ')[j]? = some (some c) → (j ∈ vs ∧ δ[j]? = some (some c)) ∨ (j ∉ vs ∧ δ'[j]? = some (some c)) := fun {j c} e => by
    rcases back_get e with h | h | ⟨h1, h2⟩
    · exact .inl h
    · exact .inr h
    · exact absurd h2 (dead h1)
  have own_ : ∀ a, Owned σ (back δ vs δ') a → Owned σw δ' a := fun a ⟨j, d, e, s⟩ => by
    rcases get_ e with ⟨h1, h2⟩ | ⟨h1, h2⟩
    · have := calmAt_un hc h1 h2
      cases this
    · rw [← hσ j h1] at s
      exact ⟨j, d, h2, s⟩
  have m : Mv (msk Mo σw δ') H' (msk Mo σ (back δ vs δ')) H' := Mv.shrink fun a z => z.elim .inl fun z => .inr (own_ a z)
  have m0 : Mv (msk Mi σ δ) H (msk Mo σ (back δ vs δ')) H' := (g.mvW R hm).trans m
  refine ⟨⟨by rw [back_len, hl]; exact R.len, fun j c e => ?_, fun i j c c' a ne e1 e2 m1 m2 s1 s2 => ?_, g.rep.dom⟩, g.stab, fun a z => g.own a (own_ a z), fun j ⟨d, e⟩ => ?_, fun j ⟨d, e⟩ => ?_, g.trk⟩
  · rcases get_ e with ⟨h1, h2⟩ | ⟨h1, h2⟩
    · obtain ⟨v, ev, r⟩ := R.cell j c h2
      refine ⟨v, ev, ?_⟩
      have nm := calmAt_un hc h1 h2
      cases c with
      | val d => exact Dat.mv m0 r
      | own d => cases nm
      | ref d => cases nm
      | exc b dd x => exact ⟨r.1, r.2.mv m0⟩
    · obtain ⟨v, ev, r⟩ := g.rep.cell j c h2
      exact ⟨v, by rw [← hσ j h1]; exact ev, r.mv m (fun _ _ _ _ _ n => n) (fun _ _ z _ => z) fun _ _ _ => rfl⟩
  · rcases get_ e1 with ⟨h1, h2⟩ | ⟨h1, h2⟩
    · rw [calmAt_un hc h1 h2] at m1
      cases m1
    · rcases get_ e2 with ⟨h3, h4⟩ | ⟨h3, h4⟩
      · rw [calmAt_un hc h3 h4] at m2
        cases m2
      · rw [← hσ i h1] at s1
        rw [← hσ j h3] at s2
        exact g.rep.sep i j c c' a ne h2 h4 m1 m2 s1 s2
  · have nj : j ∉ vs := fun z => by
      have := calmAt_un hc z e
      cases this
    obtain ⟨q, d', e'⟩ := g.lent j ⟨d, e⟩
    exact ⟨rfl, d', back_keep nj e'⟩
  · rcases get_ e with ⟨h1, h2⟩ | ⟨h1, h2⟩
    · exact ⟨d, h2⟩
    · exact g.lentB j ⟨d, h2⟩
/-- a container that is nobody's is changed -/
theorem Go.atNew {D0 : Addr} {o : HO} (R : Rep K Mi σ H δ) (n : H D0 = none) (g : Go K Mi (plus Mi D0) σ H δ σ' H' δ') : Go K Mi (plus Mi D0) σ H δ σ' (upd H' D0 o) δ' := by
  have m : Mv (msk (plus Mi D0) σ' δ') H' (msk (plus Mi D0) σ' δ') (upd H' D0 o) := Mv.updM (.inl (.inr rfl))
  refine ⟨⟨g.rep.len, fun j c e => ?_, g.rep.sep, fun a z q => g.rep.dom a z (trk_upd a q)⟩, fun a u n1 n2 e => ?_, g.own, g.lent, g.lentB, fun a q => g.trk a (trk_upd a q)⟩
  · obtain ⟨v, ev, r⟩ := g.rep.cell j c e
    refine ⟨v, ev, r.mv m (fun _ _ _ _ _ n => n) (fun _ _ z _ => z) fun a hm ea => upd_ne fun z => ?_⟩
    subst z
    subst ea
    cases c with
    | val d => cases hm
    | own d =>
      obtain ⟨b, eb, nb, _⟩ := r
      cases eb
      exact nb (.inr rfl)
    | ref d => exact R.dom a (R.lent_in (Lent.of g ⟨j, d, e, ev⟩)) n
    | exc _ _ _ => cases hm
  · rw [upd_ne (ne_of_none e n)]
    exact g.stab a u n1 n2 e
/-- the items, one behind another -/
def compL (vs : List Nat) (B : Bd) (T : Fe Bool) (E : Fe D) : List D → List D → Fe (List D)
  | [], acc, δ => .ok acc δ
  | d :: ds, acc, δ =>
    match B d δ with
    | none => .bad
    | some δ1 => match T δ1 with
      | .ok true δ2 => (match E δ2 with
        | .ok y δ3 => compL vs B T E ds (acc ++ [y]) (wipeE δ3 vs)
        | _ => .bad)
      | .ok false δ2 => compL vs B T E ds acc (wipeE δ2 vs)
      | _ => .bad
/-- [E for B in I if T]; vs: the block's own slots -/
def fComp (vs : List Nat) (I : Fe (List D)) (B : Bd) (T : Fe Bool) (E : Fe D) : Fe D := fun δ => (I δ).bind fun ds δ1 =>
  if calmAt δ1 vs = true ∧ ds.length ≤ 1000000 then
    match compL vs B T E ds [] (wipeE δ1 vs) with
    | .ok acc δ2 => if δ2.length = δ1.length then .ok (.list acc) (back δ1 vs δ2) else .bad
    | _ => .bad
  else .bad
def noW : WX := fun _ _ _ _ => False
def fYes : Fe Bool := fun δ => .ok true δ
def DTs (X : Cx) (W : WX) (ifs : List Expr) (T : Fe Bool) : Prop := PTs X ifs (tG X W pB T)
theorem PTs.imp {X : Cx} {ifs : List Expr} {t t' : TT} (h : PTs X ifs t) (i : ∀ σ H Q, t' σ H Q → t σ H Q) : PTs X ifs t' := ⟨fun pins s σ H Q I q => h.run pins s σ H Q I (i _ _ _ q)⟩
theorem dts_nil : DTs X W [] fYes := PTs.imp pts_nil fun σ H Q ⟨Mi, δ, R, h⟩ => h true H (Go.refl R) rfl
theorem dts_one {c : Expr} {T : Fe Bool} (h : DT X W c T) : DTs X W [c] T := pts_one h
theorem wipe_far {vs sl : List Nat} {σ σ2 : St} (hs : ∀ j ∈ sl, j ∈ vs) (f : Far sl (wipe σ vs) σ2) : wipe σ2 vs = wipe σ vs := by
  refine List.ext_getElem? fun j => ?_
  have len2 : σ2.length = σ.length := by rw [f.1, wipe_length]
  by_cases hj : j ∈ vs
  · have in_ : ∀ (τ : St) (vs : List Nat), j ∈ vs → j < τ.length → (wipe τ vs)[j]? = some none := fun τ vs => by
      induction vs with
      | nil => intro h; simp at h
      | cons v vs ih =>
        intro h hlt
        show ((wipe τ vs).set v none)[j]? = some none
        by_cases e : v = j
        · subst e
          rw [List.getElem?_set_self (by rw [wipe_length]; exact hlt)]
        · rw [List.getElem?_set_ne e]
          exact ih ((List.mem_cons.mp h).resolve_left fun z => e z.symm) hlt
    by_cases hlt : j < σ.length
    · rw [in_ σ2 vs hj (by omega), in_ σ vs hj hlt]
    · rw [List.getElem?_eq_none (by rw [wipe_length]; omega), List.getElem?_eq_none (by rw [wipe_length]; omega)]
  · rw [wipe_out hj, f.2 j fun z => hj (hs j z)]
theorem comp_rd {vs sl : List Nat} {I : Fe (List D)} {B : Bd} {T : Fe Bool} {E : Fe D} {Q : VK} (hs : ∀ j ∈ sl, j ∈ vs) (q : tN X W (fComp vs I B T E) σ H Q) : tLc (tG X W (pI X) I) (tB1 X sl B) (tG X noW pB T) (tG X noW (pD X) E) vs σ H Q := by
  obtain ⟨Mi0, δ0, R0, q⟩ := tN_bind (P := pI X) q
  refine ⟨Mi0, δ0, R0, q.imp fun J H1 ⟨Mi, ds, δ1, R1, pj, r⟩ D0 nD => ?_⟩
  split at r
  case isFalse => exact False.elim r
  rename_i hc
  obtain ⟨hcalm, hlen⟩ := hc
  have outE : ∀ j, j ∉ vs → (wipe σ vs)[j]? = σ[j]? := fun j hj => wipe_out hj
  have noRef : ∀ j ∈ vs, isRef δ1[j]? = false := fun j hj => by
    cases e : δ1[j]? with
    | none => rfl
    | some x =>
      cases x with
      | none => rfl
      | some c =>
        have := calmAt_un hcalm hj e
        cases c <;> first | rfl | cases this
  have hplus : ∀ a, plus Mi D0 a → msk Mi σ δ1 a ∨ H1 a = none := fun a z => z.elim (fun z => .inl (.inl z)) fun z => .inr (by rw [z]; exact nD)
  have g0 : Go X.K Mi (plus Mi D0) σ H1 δ1 (wipe σ vs) (upd H1 D0 (.lst [])) (wipeE δ1 vs) := (Go.new R1 nD).wiped (by rw [wipe_length]; exact Nat.le_refl _) outE noRef
  refine ⟨fun i m H => m = ds.length - i ∧ i ≤ ds.length ∧ ∃ δ acc xs, Go X.K Mi (plus Mi D0) σ H1 δ1 (wipe σ vs) H δ ∧ H D0 = some (.lst xs) ∧ DatAll X.K (msk (plus Mi D0) (wipe σ vs) δ) H acc xs ∧ acc.length ≤ i ∧
    RunN X W Mi σ H1 δ1 (match compL vs B T E (ds.drop i) acc δ with | .ok acc δ2 => if δ2.length = δ1.length then .ok (.list acc) (back δ1 vs δ2) else .bad | _ => .bad) Q, ⟨ds.length, by simp, Nat.zero_le _, wipeE δ1 vs, [], [], g0, upd_same, .nil, Nat.le_refl _, r⟩, ?_⟩
  rintro i m H ⟨rfl, hi, δ, acc, xs, g, hD, hA, hacc, r⟩
  obtain ⟨pi, ps⟩ := pj _ H (g.mvW R1 hplus) fun a z => g.rep.dom' z
  by_cases hlt : i < ds.length
  · have ei : ds[i]? = some ds[i] := List.getElem?_eq_getElem hlt
    obtain ⟨go, yl⟩ := pi i _ ei
    rw [List.drop_eq_getElem_cons hlt] at r
    refine .inr ⟨go, fun H' => ∃ δ acc xs, Go X.K Mi (plus Mi D0) σ H1 δ1 (wipe σ vs) H' δ ∧ H' D0 = some (.lst xs) ∧ DatAll X.K (msk (plus Mi D0) (wipe σ vs) δ) H' acc xs ∧ acc.length ≤ i + 1 ∧
      RunN X W Mi σ H1 δ1 (match compL vs B T E (ds.drop (i + 1)) acc δ with | .ok acc δ2 => if δ2.length = δ1.length then .ok (.list acc) (back δ1 vs δ2) else .bad | _ => .bad) Q, fun H' h => ⟨ds.length - (i + 1), by omega, rfl, hlt, h⟩, fun x H2 hy => ?_⟩
    obtain ⟨al, dx⟩ := yl x H2 hy
    have gA := Go.al g.rep al
    unfold compL at r
    cases eb : B ds[i] δ with
    | none =>
      rw [eb] at r
      exact False.elim r
    | some δa =>
      rw [eb] at r
      dsimp only at r
      refine ⟨plus Mi D0, _, δ, gA.rep, dx, δa, eb, fun σ2 g2 far => ⟨wipe_far hs far, plus Mi D0, δa, g2.rep, ?_⟩⟩
      have w2 : wipe σ2 vs = wipe σ vs := wipe_far hs far
      have out2 : ∀ j, j ∉ vs → (wipe σ vs)[j]? = σ2[j]? := fun j hj => by rw [← w2, wipe_out hj]
      have len2 : σ2.length ≤ (wipe σ vs).length := by rw [← w2, wipe_length]; exact Nat.le_refl _
      have noRefW : ∀ {δ : DEnv}, Go X.K Mi (plus Mi D0) σ H1 δ1 (wipe σ vs) H δ → True := fun _ => trivial
      cases et : T δa with
      | err z δb =>
        rw [et] at r
        exact False.elim r
      | bad =>
        rw [et] at r
        exact False.elim r
      | ok k δb =>
        rw [et] at r
        refine fun b H3 g3 pb => ?_
        have eb3 : b = k := pb
        subst eb3
        cases b with
        | false =>
          refine iteF ?_
          have gg : Go X.K Mi (plus Mi D0) σ H1 δ1 σ2 H3 δb := (g.trans gA).trans (g2.trans g3)
          have stepG : Go X.K (plus Mi D0) (plus Mi D0) (wipe σ vs) H δ σ2 H3 δb := gA.trans (g2.trans g3)
          have mv3 := stepG.mv g.rep
          have gw := gg.wiped len2 out2 noRef
          have shr : Mv (msk (plus Mi D0) σ2 δb) H3 (msk (plus Mi D0) (wipe σ vs) (wipeE δb vs)) H3 := Mv.shrink fun a z => z.elim .inl fun ⟨j, d, e, s⟩ => by
            obtain ⟨h1, h2⟩ := wipeE_get e
            rw [out2 j h1] at s
            exact .inr ⟨j, d, h2, s⟩
          refine ⟨wipeE δb vs, acc, xs, gw, ?_, (hA.mv mv3).mv shr, by omega, r⟩
          refine stepG.stab D0 _ (fun z => ?_) (fun z => ?_) hD
          · exact g.rep.own_out z (.inr rfl)
          · exact R1.dom D0 (R1.lent_in (Lent.of g z)) nD
        | true =>
          refine iteT ⟨plus Mi D0, δb, g3.rep, ?_⟩
          dsimp only at r
          cases ee : E δb with
          | err z δc =>
            rw [ee] at r
            exact False.elim r
          | bad =>
            rw [ee] at r
            exact False.elim r
          | ok y δc =>
            rw [ee] at r
            refine fun u H4 g4 pu => ?_
            have gg : Go X.K Mi (plus Mi D0) σ H1 δ1 σ2 H4 δc := ((g.trans gA).trans (g2.trans g3)).trans g4
            have stepG : Go X.K (plus Mi D0) (plus Mi D0) (wipe σ vs) H δ σ2 H4 δc := (gA.trans (g2.trans g3)).trans g4
            have mv3 := stepG.mv g.rep
            have gw := Go.atNew (o := .lst (xs ++ [u])) R1 nD (gg.wiped len2 out2 noRef)
            have shr : Mv (msk (plus Mi D0) σ2 δc) H4 (msk (plus Mi D0) (wipe σ vs) (wipeE δc vs)) H4 := Mv.shrink fun a z => z.elim .inl fun ⟨j, d, e, s⟩ => by
              obtain ⟨h1, h2⟩ := wipeE_get e
              rw [out2 j h1] at s
              exact .inr ⟨j, d, h2, s⟩
            have hD4 : H4 D0 = some (.lst xs) := by
              refine stepG.stab D0 _ (fun z => ?_) (fun z => ?_) hD
              · exact g.rep.own_out z (.inr rfl)
              · exact R1.dom D0 (R1.lent_in (Lent.of g z)) nD
            have pu' : Dat X.K (msk (plus Mi D0) σ2 δc) H4 y u := pu
            refine ⟨xs, hD4, ?_, wipeE δc vs, acc ++ [y], xs ++ [u], gw, upd_same, ?_, ?_, r⟩
            · have : xs.length ≤ i := by rw [hA.length]; exact hacc
              exact Nat.lt_of_lt_of_le (Nat.lt_of_le_of_lt this (Nat.lt_of_lt_of_le hlt hlen)) (by decide)
            · exact (((hA.mv mv3).append (.cons pu' .nil)).mv shr).mv (Mv.updM (.inl (.inr rfl)))
            · rw [List.length_append, List.length_singleton]
              omega
  · have e : i = ds.length := by omega
    subst e
    rw [List.drop_length] at r
    refine .inl ⟨ps, ?_⟩
    unfold compL at r
    dsimp only at r
    split at r
    · rename_i hl
      have gb := Go.backed R1 g hplus hcalm outE hl
      have shr : Mv (msk (plus Mi D0) (wipe σ vs) δ) H (msk (plus Mi D0) σ (back δ1 vs δ)) H := Mv.shrink fun a z => z.elim .inl fun ⟨j, d, e, s⟩ => by
        rcases back_get e with ⟨h1, h2⟩ | ⟨h1, h2⟩ | ⟨h1, h2⟩
        · have := calmAt_un hcalm h1 h2
          cases this
        · rw [← outE j h1] at s
          exact .inr ⟨j, d, h2, s⟩
        · have h3 := (List.getElem?_eq_some_iff.mp h1).1
          have h4 := List.getElem?_eq_none_iff.mp h2
          omega
      exact r D0 H gb nD ⟨xs, hD, hA.mv shr⟩
    · exact False.elim r
theorem do_comp {elt tg iter : Expr} {ifs : List Expr} {scope : Scope} {own : List (Str × Nat)} {pos : Pos} {sl : List Nat} {I : Fe (List D)} {B : Bd} {T : Fe Bool} {E : Fe D} (hc : X.calm = true) (hN : X.N.Nodup) (hi : DI X W tg iter I) (ok : BlkOk X.N X.env.scope scope own) (hs : ∀ j ∈ sl, j ∈ own.map (·.2))
    (hg : ∀ (s : Shared) (H : Hp) (C : Addr) (cl : List (Str × Addr)) (fp : List Addr), DG (X.blk s H scope (compEnvC scope cl C X.env) fp) tg sl B) (ht : ∀ (s : Shared) (H : Hp) (C : Addr) (cl : List (Str × Addr)) (fp : List Addr), DTs (X.blk s H scope (compEnvC scope cl C X.env) fp) noW ifs T)
    (he : ∀ (s : Shared) (H : Hp) (C : Addr) (cl : List (Str × Addr)) (fp : List Addr), DE (X.blk s H scope (compEnvC scope cl C X.env) fp) noW elt E) (hf : ∀ x, foldedSetIterable iter X.env x = pure x := by intro _; rfl) :
    DO X W (.ListComp elt [⟨tg, iter, ifs, 0⟩] scope pos) (fComp (own.map (·.2)) I B T E) :=
  PE.imp (pe_lc (g := tB1 X sl B) (tt := tG X noW pB T) (te := tG X noW (pD X) E) hc hN hi ok hg ht he hf) fun σ H Q q => comp_rd hs q
end
end Dl

set_option Elab.async false
set_option linter.all false
set_option maxRecDepth 100000
namespace Dl
open PySem PySem.Spec PyProof.Rows L2
section
variable {X : Cx} {W : WX} {Mi : Msk} {σ : St} {H H1 : Hp} {δ δ1 : DEnv}

/-! ### slices -/
def pPt : Rl (Option Int) (Option Int) := fun _ a _ _ _ o => o = a
def DPt (X : Cx) (W : WX) (e : Option Expr) (F : Fe (Option Int)) : Prop := PO X e (tG X W pPt F)
theorem PO.imp {e : Option Expr} {t t' : St → Hp → (Option Int → Hp → Prop) → Prop} (h : PO X e t) (i : ∀ σ H Q, t' σ H Q → t σ H Q) : PO X e t' := ⟨fun pins s σ H Q I q => h.run pins s σ H Q I (i σ H Q q)⟩
def ptNone : Fe (Option Int) := fun δ => .ok none δ
def toPt : D → DEnv → R (Option Int)
  | .int i, δ => .ok (some i) δ
  | _, _ => .bad
def ptSome (F : Fe D) : Fe (Option Int) := fun δ => (F δ).bind toPt
theorem dpt_none : DPt X W none ptNone := PO.imp po_none fun σ H Q ⟨Mi, δ, R, h⟩ => h none H (Go.refl R) rfl
theorem dpt_some {e : Expr} {F : Fe D} (h : DE X W e F) : DPt X W (some e) (ptSome F) := by
  refine PO.imp (po_some h) fun σ H Q q => ?_
  obtain ⟨Mi, δ, R, q⟩ := tG_bind (P := pD X) q
  refine ⟨Mi, δ, R, q.imp fun v H1 ⟨Mi, d, δ1, R1, p, r⟩ => ?_⟩
  have p' : Dat X.K (msk Mi σ δ1) H1 d v := p
  cases d with
  | int i =>
    simp only [Dat] at p'
    exact ⟨i, p', r _ H1 (Go.refl R1) rfl⟩
  | none => exact False.elim r
  | bool _ => exact False.elim r
  | str _ => exact False.elim r
  | list _ => exact False.elim r
  | tuple _ => exact False.elim r
  | dict _ => exact False.elim r
theorem stays_Pt : Stays (X := X) (pPt) := fun Mi a σ δ H v H' δ' R g p => p
def cutD {α : Type} (xs : List α) (lo hi : Option Int) : List α := (xs.drop (HT.sIx xs.length 0 lo)).take (HT.sIx xs.length xs.length hi - HT.sIx xs.length 0 lo)
theorem DatAll.cut {K : PySem.W.Frag} {M : Msk} {H : Hp} {ds : List D} {xs : List V} (r : DatAll K M H ds xs) (lo hi : Option Int) : DatAll K M H (cutD ds lo hi) (cutV xs lo hi) := by
  unfold cutD cutV
  rw [r.length]
  exact (r.drop _).take _
def sliceF : D → Option Int → Option Int → Option D
  | .list ds, lo, hi => some (.list (cutD ds lo hi))
  | .tuple ds, lo, hi => some (.tuple (cutD ds lo hi))
  | .str z, lo, hi => if z.length ≤ 1000000 then some (.str (cutS z lo hi)) else none
  | _, _, _ => none
def rSlD (K : PySem.W.Frag) : V → Option Int → Option Int → Hp → VK → Prop := fun x lo hi H Q =>
  ∃ (M : Msk) (da d : D), (∀ a, M a → H a ≠ none) ∧ Pk K M H da x ∧ sliceF da lo hi = some d ∧ ∀ v H', Al H H' → Dat K M H' d v → Q v H'
theorem sl_D : SlR X (rSlD X.K) := by
  intro pins s σ H x v vl vu lo hi sl Q I rx hs pl pu ⟨M, da, d, hm, px, e, q⟩
  unfold sliceF at e
  split at e
  · cases e
    obtain ⟨a, xs, rfl, l, r⟩ := px.list
    exact sl_list pins s σ H _ v vl vu lo hi sl Q I rx hs pl pu ⟨a, xs, rfl, l.sq, fun p n => q _ _ (Al.new n) (.newLst hm n (r.cut lo hi))⟩
  · cases e
    obtain ⟨a, xs, rfl, l, r⟩ := px.tuple
    refine sl_tupA pins s σ H _ v vl vu lo hi sl Q I rx hs pl pu ⟨a, xs, rfl, l.sq, fun h => q _ H Al.refl (.mkTup l ?_), fun h p n => q _ _ (Al.new n) (.newTup hm n (r.cut lo hi))⟩
    have c := r.cut lo hi
    have e : cutV xs lo hi = xs := by
      unfold cutV
      rw [h.1, h.2, List.drop_zero, Nat.sub_zero, List.take_length]
    rw [e] at c
    exact c
  · obtain ⟨hl, e⟩ := some_if e
    subst e
    exact sl_str pins s σ H x v vl vu lo hi sl Q I rx hs pl pu ⟨_, px.str, lenLine hl, q _ H Al.refl .mkStr⟩
  · cases e
def fSlice (F : Fe Opd) (L U : Fe (Option Int)) : Fe D := fun δ => (F δ).bind fun o δ1 => (L δ1).bind fun l δ2 => (U δ2).bind fun u δ3 => R.of ((opd δ3 o).bind fun d => sliceF d l u) δ3
theorem de_slice {e : Expr} {lo hi : Option Expr} {p2 pos : Pos} {F : Fe Opd} {L U : Fe (Option Int)} (he : DP X W e F) (hl : DPt X W lo L) (hu : DPt X W hi U) : DE X W (.Subscript e (.Slice lo hi none p2) pos) (fSlice F L U) := by
  refine PE.imp (pe_slice sl_D he hl hu) fun σ H Q q => ?_
  obtain ⟨Mi, δ, R, q⟩ := tG_bind2 (P := pO X) (P2 := pPt) (F2 := L) stays_O q
  refine ⟨Mi, δ, R, q.imp fun v H1 q1 => ?_⟩
  obtain ⟨Mi, δ, R, q1⟩ := q1
  refine ⟨Mi, δ, R, q1.imp fun l H2 ⟨Mi, a, b, δ2, R2, p1, p2, r⟩ => ?_⟩
  refine ⟨Mi, δ2, R2, (RunG.bind (P := pPt) r).imp fun u H3 ⟨c, δ3, g3, p3, r3⟩ => ?_⟩
  have e2 : l = b := p2
  have e3 : u = c := p3
  subst e2 e3
  have p13 := stays_O _ _ _ _ _ _ _ _ R2 g3 p1
  cases eo : opd δ3 a with
  | none =>
    rw [eo] at r3
    exact False.elim r3
  | some d =>
    rw [eo] at r3
    have r4 : RunG X W (pD X) Mi σ H3 δ3 (Dl.R.of (sliceF d l u) δ3) Q := r3
    cases es : sliceF d l u with
    | none =>
      rw [es] at r4
      exact False.elim r4
    | some x =>
      rw [es] at r4
      exact ⟨_, d, x, fun a z => g3.rep.dom' z, opd_pk rfl g3.rep p13 eo, es, fun v H' al dv => r4 v H' (Go.al g3.rep al) dv⟩

/-! ### methods of built-in types -/
def rM (K : PySem.W.Frag) (g : D → List D → Option D) : V → List V → Hp → VK → Prop := fun x xs H Q =>
  ∃ (M : Msk) (d : D) (ds : List D) (r : D), (∀ a, M a → H a ≠ none) ∧ Pk K M H d x ∧ PkAll K M H ds xs ∧ g d ds = some r ∧ ∀ v H', Al H H' → Dat K M H' r v → Q v H'
def fMeth (T : String) (g : D → List D → Option D) (F : Fe Opd) (G : Fe (List Opd)) : Fe D := fun δ => (F δ).bind fun o δ1 =>
  if (opd δ1 o).map tyN = some T ∧ (T = "str" ∨ T = "list" ∨ T = "dict") then (G δ1).bind fun os δ2 => R.of ((opd δ2 o).bind fun d => (opds δ2 os).bind (g d)) δ2 else .bad
theorem pk_tyV {M : Msk} {H : Hp} {d : D} {v : V} {T : String} (h : Pk X.K M H d v) (e : tyN d = T) (hT : T = "str" ∨ T = "list") : tyV X.K T v H := by
  cases d with
  | str s =>
    rw [h.str]
    exact e.symm
  | list ds =>
    obtain ⟨a, xs, rfl, l, _⟩ := h.list
    exact .inl ⟨e.symm, xs, l.sq⟩
  | none => subst e; exact absurd hT (show ¬ (("NoneType" : String) = "str" ∨ ("NoneType" : String) = "list") by decide)
  | bool _ => subst e; exact absurd hT (show ¬ (("bool" : String) = "str" ∨ ("bool" : String) = "list") by decide)
  | int _ => subst e; exact absurd hT (show ¬ (("int" : String) = "str" ∨ ("int" : String) = "list") by decide)
  | tuple _ => subst e; exact absurd hT (show ¬ (("tuple" : String) = "str" ∨ ("tuple" : String) = "list") by decide)
  | dict _ => subst e; exact absurd hT (show ¬ (("dict" : String) = "str" ∨ ("dict" : String) = "list") by decide)
theorem meth_rd {T : String} {g : D → List D → Option D} {F : Fe Opd} {G : Fe (List Opd)} {Q : VK} (hT : T = "str" ∨ T = "list") (q : tG X W (pD X) (fMeth T g F G) σ H Q) : tBM X.K T (rM X.K g) (tG X W (pO X) F) (tG X W (pL X) G) σ H Q := by
  obtain ⟨Mi, δ, R, q⟩ := tG_bind (P := pO X) q
  refine ⟨Mi, δ, R, q.imp fun v H1 ⟨Mi, o, δ1, R1, p1, r⟩ => ?_⟩
  split at r
  · rename_i ht
    obtain ⟨ht, _⟩ := ht
    obtain ⟨d0, ed, et⟩ := Option.map_eq_some_iff.mp ht
    refine ⟨pk_tyV (opd_pk rfl R1 p1 ed) et hT, Mi, δ1, R1, (RunG.bind (P := pL X) r).imp fun xs H2 ⟨os, δ2, g2, p2, r2⟩ => ?_⟩
    have p12 := stays_O _ _ _ _ _ _ _ _ R1 g2 p1
    cases eo : opd δ2 o with
    | none =>
      rw [eo] at r2
      exact False.elim r2
    | some d =>
      rw [eo] at r2
      cases es : opds δ2 os with
      | none =>
        rw [es] at r2
        exact False.elim r2
      | some ds =>
        rw [es] at r2
        have r3 : RunG X W (pD X) Mi σ H2 δ2 (Dl.R.of (g d ds) δ2) Q := r2
        cases eg : g d ds with
        | none =>
          rw [eg] at r3
          exact False.elim r3
        | some x =>
          rw [eg] at r3
          exact ⟨_, d, ds, x, fun a z => g2.rep.dom' z, opd_pk rfl g2.rep p12 eo, opds_pk g2.rep p2 es, eg, fun v H' al dv => r3 v H' (Go.al g2.rep al) dv⟩
  · exact False.elim r
theorem de_meth {T id : String} {g : D → List D → Option D} {o e : Expr} {es : List Expr} {name : Str} {apos cpos : Pos} {F : Fe Opd} {G : Fe (List Opd)} (hT : T = "str" ∨ T = "list") (pa : PlainAttrs T) (slot : Slot T name id) (hty : typeOf (.builtin id) = pure (.type "method_descriptor")) (hm : MtR X id (rM X.K g)) (ho : DP X W o F) (ha : DL X W (e :: es) G)
    (hbase : attributeBase o name X.env (eval o X.env) = eval o X.env := by rfl)
    (hfew : ((backTo cpos (starEach (e :: es) X.env)).all (fun x => !x.1) && (backToKw cpos (keywordEach [] X.env)).all (fun x => x.1.isSome)
      && decide ((e :: es).length + ([] : List Keyword).length + (if ([] : List Keyword).isEmpty then 0 else 1) < 30)) = true := by rfl)
    (hline : (apos.endLine == cpos.line) = true := by rfl) (hs : starEach (e :: es) X.env = (false, eval e X.env) :: starEach es X.env := by rfl) (hplain : (backTo cpos (starEach es X.env)).any (·.1) = false := by rfl) :
    DE X W (.Call (.Attribute o name apos) (e :: es) [] cpos) (fMeth T g F G) :=
  PE.imp (pe_bm pa slot hty hm ho ha hbase hfew hline hs hplain) fun _ _ _ q => meth_rd hT q
/-! texts' -/
def splitM : D → List D → Option D
  | .str a, [.str b] => if (b.length == 0) = false ∧ a.length ≤ 1000000 then some (.list ((Txt.split a b).map .str)) else none
  | _, _ => none
theorem DatAll.strs {K : PySem.W.Frag} {M : Msk} {H : Hp} : ∀ (ys : List Str), DatAll K M H (ys.map .str) (ys.map V.str)
  | [] => .nil
  | y :: ys => .cons .mkStr (DatAll.strs ys)
theorem mt_splitD : MtR X "str.split" (rM X.K splitM) := by
  intro pins s σ H x xs v us Q I rx rs ⟨M, d, ds, r, hm, px, ps, e, q⟩
  unfold splitM at e
  split at e
  · obtain ⟨⟨h1, h2⟩, e⟩ := some_if e
    subst e
    obtain ⟨w, rfl, pw⟩ := PkAll.one (ds := []) (v := .non) ps
    exact mt_split pins s σ H x _ v us Q I rx rs ⟨_, _, px.str, by rw [pw.str], h1, by rw [sizeLine_eq]; omega, fun p n => q _ _ (Al.new n) (.newLst hm n (DatAll.strs _))⟩
  · cases e
def strsOf : List D → Option (List Str)
  | [] => some []
  | .str x :: r => (strsOf r).map (x :: ·)
  | _ => none
theorem strsOf_eq : ∀ {ds : List D} {ys : List Str}, strsOf ds = some ys → ds = ys.map .str
  | [], _, e => by cases e; rfl
  | .str b :: r, _, e => by
    simp only [strsOf] at e
    obtain ⟨bs, h, rfl⟩ := Option.map_eq_some_iff.mp e
    rw [strsOf_eq h]
    rfl
  | .none :: _, _, e => by simp [strsOf] at e
  | .int _ :: _, _, e => by simp [strsOf] at e
  | .bool _ :: _, _, e => by simp [strsOf] at e
  | .list _ :: _, _, e => by simp [strsOf] at e
  | .tuple _ :: _, _, e => by simp [strsOf] at e
  | .dict _ :: _, _, e => by simp [strsOf] at e
theorem DatAll.strs_inv {K : PySem.W.Frag} {M : Msk} {H : Hp} : ∀ {ys : List Str} {vs : List V}, DatAll K M H (ys.map .str) vs → vs = ys.map V.str
  | [], _, h => h.nil_inv
  | b :: bs, _, h => by
    obtain ⟨v, r, rfl, h1, h2⟩ := h.cons_inv
    simp only [Dat] at h1
    rw [h1, DatAll.strs_inv h2]
    rfl
def joinM : D → List D → Option D
  | .str a, [.list ds] => (strsOf ds).bind fun ys => if (ys.map (·.length)).sum + ys.length * a.length ≤ 1000000 then some (.str (Txt.join a ys)) else none
  | .str a, [.tuple ds] => (strsOf ds).bind fun ys => if (ys.map (·.length)).sum + ys.length * a.length ≤ 1000000 then some (.str (Txt.join a ys)) else none
  | _, _ => none
theorem mt_joinD : MtR X "str.join" (rM X.K joinM) := by
  intro pins s σ H x xs v us Q I rx rs ⟨M, d, ds, r, hm, px, ps, e, q⟩
  unfold joinM at e
  split at e
  · obtain ⟨ys, ey, e⟩ := Option.bind_eq_some_iff.mp e
    obtain ⟨hl, e⟩ := some_if e
    subst e
    obtain ⟨w, rfl, pw⟩ := PkAll.one (ds := []) (v := .non) ps
    obtain ⟨a, zs, rfl, l, rr⟩ := pw.list
    rw [strsOf_eq ey] at rr
    have ez := rr.strs_inv
    subst ez
    exact mt_join pins s σ H x _ v us Q I rx rs ⟨_, a, ys, px.str, rfl, .inl l.sq, Nat.le_trans hl (by decide), q _ H Al.refl .mkStr⟩
  · obtain ⟨ys, ey, e⟩ := Option.bind_eq_some_iff.mp e
    obtain ⟨hl, e⟩ := some_if e
    subst e
    obtain ⟨w, rfl, pw⟩ := PkAll.one (ds := []) (v := .non) ps
    obtain ⟨a, zs, rfl, l, rr⟩ := pw.tuple
    rw [strsOf_eq ey] at rr
    have ez := rr.strs_inv
    subst ez
    exact mt_join pins s σ H x _ v us Q I rx rs ⟨_, a, ys, px.str, rfl, .inr l.sq, Nat.le_trans hl (by decide), q _ H Al.refl .mkStr⟩
  · cases e
def findM : D → List D → Option D
  | .str a, [.str b] => some (.int (Txt.find a b))
  | _, _ => none
theorem mt_findD : MtR X "str.find" (rM X.K findM) := by
  intro pins s σ H x xs v us Q I rx rs ⟨M, d, ds, r, hm, px, ps, e, q⟩
  unfold findM at e
  split at e
  · cases e
    obtain ⟨w, rfl, pw⟩ := PkAll.one (ds := []) (v := .non) ps
    exact mt_find pins s σ H x _ v us Q I rx rs ⟨_, _, px.str, by rw [pw.str], q _ H Al.refl .mkInt⟩
  · cases e
def sindexM : D → List D → Option D
  | .str a, [.str b] => match Builtin.Str.occurrences a b 0 a.length 1 with
    | i :: _ => some (.int (i : Nat))
    | [] => none
  | _, _ => none
theorem mt_sindexD : MtR X "str.index" (rM X.K sindexM) := by
  intro pins s σ H x xs v us Q I rx rs ⟨M, d, ds, r, hm, px, ps, e, q⟩
  unfold sindexM at e
  split at e
  · split at e
    · rename_i i rest eo
      cases e
      obtain ⟨w, rfl, pw⟩ := PkAll.one (ds := []) (v := .non) ps
      exact mt_sindex pins s σ H x _ v us Q I rx rs ⟨_, _, i, rest, px.str, by rw [pw.str], eo, q _ H Al.refl .mkInt⟩
    · cases e
  · cases e
/-! max, min of two ints -/
def maxF : List D → Option D
  | [.int i, .int j] => some (.int (if j > i then j else i))
  | _ => none
def minF : List D → Option D
  | [.int i, .int j] => some (.int (if j < i then j else i))
  | _ => none
theorem call_maxD (hc : X.calm = true) : CallR X (.builtin "max") (rC X.K maxF) := by
  intro pins s σ H xs us Q I r ⟨M, ds, d, hm, ps, e, q⟩
  unfold maxF at e
  split at e
  · cases e
    obtain ⟨v, u, rfl, p1, p2⟩ := PkAll.two ps
    exact call_max2 hc pins s σ H _ us Q I r ⟨_, _, by rw [p1.int, p2.int], q _ H Al.refl .mkInt⟩
  · cases e
theorem call_minD (hc : X.calm = true) : CallR X (.builtin "min") (rC X.K minF) := by
  intro pins s σ H xs us Q I r ⟨M, ds, d, hm, ps, e, q⟩
  unfold minF at e
  split at e
  · cases e
    obtain ⟨v, u, rfl, p1, p2⟩ := PkAll.two ps
    exact call_min2 hc pins s σ H _ us Q I r ⟨_, _, by rw [p1.int, p2.int], q _ H Al.refl .mkInt⟩
  · cases e
def strF : List D → Option D
  | [.int i] => if i.natAbs.log2 < 1920 then some (.str (toString i)) else none
  | _ => none
theorem call_strD : CallR X (.type "str") (rC X.K strF) := by
  intro pins s σ H xs us Q I r ⟨M, ds, d, hm, ps, e, q⟩
  unfold strF at e
  split at e
  · obtain ⟨hl, e⟩ := some_if e
    subst e
    obtain ⟨v, rfl, p⟩ := PkAll.one (ds := []) (v := .non) ps
    exact call_str_int pins s σ H _ us Q I r ⟨_, by rw [p.int], hl, q _ H Al.refl .mkStr⟩
  · cases e
/-- list(x) as a new list of one's own -/
theorem do_listC {x : Str} {p pos : Pos} {e : Expr} {F : Fe Opd} (hg : Gl X x) (hm : X.mg x = none) (hv : bootBuiltins x = some (.type "list")) (ha : DP X W e F) (hn : x ≠ "__name__" := by decide +kernel) (hdb : (x == ("__debug__" : Str)) = false := by decide +kernel)
    (he : starEach [e] X.env = (false, eval e X.env) :: starEach [] X.env := by rfl) (hpl : (backTo pos (starEach [] X.env)).any (·.1) = false := by rfl) : DO X W (.Call (.Name x p) [e] [] pos) (fCall listF (lCons F lNil)) := by
  refine PE.imp (pe_callTy call_list_of hg hm hv (dl_cons ha dl_nil he) hn hdb he hpl) fun σ H Q q => ?_
  obtain ⟨Mi, δ, R, q⟩ := tN_bind (P := pL X) q
  refine ⟨Mi, δ, R, q.imp fun xs H1 ⟨Mi, os, δ1, R1, p, r⟩ => ?_⟩
  cases eo : opds δ1 os with
  | none =>
    rw [eo] at r
    exact False.elim r
  | some ds =>
    rw [eo] at r
    have r2 : RunN X W Mi σ H1 δ1 (Dl.R.of (listF ds) δ1) Q := r
    have pk := opds_pk R1 p eo
    unfold listF at r2
    split at r2
    · obtain ⟨v, rfl, pv⟩ := PkAll.one (ds := []) (v := .non) pk
      obtain ⟨a, ys, rfl, l, rr⟩ := pv.list
      exact ⟨a, ys, rfl, .inl l.sq, fun l n => RunN.lst (δ' := δ1) R1 r2 rr l n⟩
    · obtain ⟨v, rfl, pv⟩ := PkAll.one (ds := []) (v := .non) pk
      obtain ⟨a, ys, rfl, l, rr⟩ := pv.tuple
      exact ⟨a, ys, rfl, .inr l.sq, fun l n => RunN.lst (δ' := δ1) R1 r2 rr l n⟩
    · exact False.elim r2
end
end Dl

set_option Elab.async false
set_option linter.all false
set_option maxRecDepth 100000
namespace Dl
open PySem PySem.Spec PyProof.Rows L2
section
variable {X : Cx} {W : WX} {Mi : Msk} {σ : St} {H H1 : Hp} {δ δ1 : DEnv}
/-- xs[::-1] -/
def revF : D → Option D
  | .list ds => some (.list ds.reverse)
  | _ => none
theorem de_rev {e : Expr} {F : Fe Opd} {k : Nat} {p1 p2 p3 pos : Pos} (h : DP X W e F) : DE X W (.Subscript e (.Slice none none (some (.UnaryOp .USub (.Constant (.int 1) k p1) p2)) p3) pos) (fUn revF F) := by
  refine PE.imp (pe_revL h) fun σ H Q q => ?_
  obtain ⟨Mi, δ, Rp, q⟩ := tG_bind (P := pO X) q
  refine ⟨Mi, δ, Rp, q.imp fun v H1 ⟨Mi, o, δ1, R1, p, r⟩ => ?_⟩
  cases ed : (opd δ1 o).bind revF with
  | none =>
    rw [ed] at r
    exact False.elim r
  | some d =>
    rw [ed] at r
    obtain ⟨da, e1, e2⟩ := Option.bind_eq_some_iff.mp ed
    have pk := opd_pk rfl R1 p e1
    cases da with
    | list ds =>
      cases e2
      obtain ⟨a, xs, rfl, l, g⟩ := pk.list
      refine ⟨a, xs, rfl, l.sq, fun q nq => ?_⟩
      exact r _ _ (Go.al R1 (Al.new nq)) (Dat.newLst (fun a m => R1.dom' m) nq g.reverse)
    | _ => cases e2
end

/-! ### the law's end -/
theorem funOf {K : PySem.W.Frag} {x q : Str} {st : Stmt} {f : Addr} {fd : FuncData} (F : FunD K x q (defArgs st) (defBody st) (defScope st) [] [] f fd) : Fun K x q st f fd := by
  obtain ⟨oc, od, dV, kV, doc, pm, an, cdv, ct, osl, e, lk, hc, hd, hk⟩ := F.ex
  rcases hd with ⟨_, rfl⟩ | ⟨z, _⟩
  · exact ⟨⟨oc, od, kV, doc, pm, an, cdv, ct, osl, e, lk, hc⟩, F.kp⟩
  · exact absurd rfl z
def scriptD (ns : List Int) : D := .list (ns.map .int)
theorem noExc {P : Program} {w : World} {H : Hp} {s s' : Shared} {e : Value} (h : L2.CX P w [] H s (fun _ _ _ => False) e s') : False := by
  obtain ⟨_, _, _, _, _, _, _, _, _, _, _, _, z⟩ := h
  exact z
/-- nothing in the heap but the script -/
theorem lone {K : PySem.W.Frag} {H : Hp} {a : Addr} {ns : List Int} (h : (H a = none ∧ KwL K a (ns.map V.int)) ∨ ∃ o, H a = some (.frz o (.lst (ns.map V.int)))) :
    Rep K (fun _ => False) ([V.ref a].map some) H ([Cell.val (scriptD ns)].map some) := by
  have nob : ∀ b, ¬ Owned ([V.ref a].map some) ([Cell.val (scriptD ns)].map some) b := fun b ⟨i, d, e, _⟩ => by
    match i, e with
    | 0, e => cases e
    | i + 1, e => cases e
  have one : ∀ (i : Nat) (c : Cell), ([Cell.val (scriptD ns)].map some : DEnv)[i]? = some (some c) → i = 0 ∧ c = .val (scriptD ns) := fun i c e => by
    match i, e with
    | 0, e =>
      cases e
      exact ⟨rfl, rfl⟩
    | i + 1, e => cases e
  refine ⟨Nat.le_refl _, fun i c e => ?_, fun i j c c' b n e _ m _ _ _ => ?_, fun b z => z.elim⟩
  · obtain ⟨rfl, rfl⟩ := one i c e
    refine ⟨.ref a, rfl, ?_⟩
    show Dat K _ H (.list (ns.map .int)) (.ref a)
    simp only [Dat]
    refine ⟨a, ns.map V.int, rfl, ?_, DatAll.ints ns⟩
    rcases h with ⟨_, h⟩ | ⟨o, h⟩
    · exact .inr h
    · exact .inl ⟨fun z => z.elim id (nob a), .inr ⟨o, h⟩⟩
  · obtain ⟨_, rfl⟩ := one i c e
    cases m
/-- the call of the law, in any state behind the head -/
theorem law_run {P : Program} {w : World} {K : PySem.W.Frag} {mg mb : Str → Option Value} {k : Nat} {fa a : Addr} {fd : FuncData} {x : Str} {m : Mir} {t : Shared} {vs : List Value} {ns : List Int}
    (kin : K.In t.heap) (gl : t.heap.Ns mainGlobals mg) (bl : t.heap.Ns builtinsNs mb) (bt : ∀ y : Str, y ≠ "__name__" → mb y = bootBuiltins y) (nl : t.heap.NoLimit) (ng : t.gens = #[])
    (at_ : t.heap.get? a = some { cls := .type "list", data := .seq vs.toArray }) (ni : IntsAre vs ns) (le : ns.length ≤ sizeLine) (room : Room k callerA)
    (F : ∀ base : Heap, K.In base → base.Ns mainGlobals mg → FnG P w K mg base k fa fd [x] m) (bd : ∀ (s : Shared) (u : Value), BindsTo s fd ⟨[u], []⟩ [(x, u)])
    (true_ : m [.val (scriptD ns)] = .ok (.val (.bool true)) [none]) :
    codeAny (model P w) callerA (.call (.ref fa) ⟨[.ref a], []⟩) (fun r u => r = .ok (.ret (.bool true)) ∧ OldK t.heap u.heap ∧ u.os = t.os ∧ AllBare u.gens) t := by
  have rel := vals_ints ni
  -- the heap that is looked at: the script, if it isn't written; else nothing
  obtain ⟨H, hH, hS, hOk, hNK⟩ : ∃ H : Hp, (∀ b, b ≠ a → H b = none) ∧ ((H a = none ∧ KwL K a (ns.map V.int)) ∨ ∃ o, H a = some (.frz o (.lst (ns.map V.int)))) ∧ HOk P w H t.heap ∧ (H a ≠ none → K.lookup a = none) := by
    cases lk : K.lookup a with
    | none =>
      refine ⟨fun b => if b = a then some (.frz { cls := .type "list", data := .seq vs.toArray } (.lst (ns.map V.int))) else none, fun b n => if_neg n, .inr ⟨_, if_pos rfl⟩, fun b u z => ?_, fun _ => rfl⟩
      by_cases e : b = a
      · have z2 := (if_pos e).symm.trans z
        cases z2
        rw [e]
        exact ⟨at_, by simpa using le, vs, _, rel, at_⟩
      · have z2 := (if_neg e).symm.trans z
        cases z2
    | some o =>
      have same := (kin a o lk).symm.trans at_
      cases same
      exact ⟨fun _ => none, fun _ _ => rfl, .inl ⟨rfl, vs, _, lk, by simpa using le, rel⟩, fun b u z => by simp at z, fun z => absurd rfl z⟩
  have free_of : ∀ {b : Addr} {o : Obj}, K.lookup b = some o → H b = none := fun {b o} e => by
    by_cases q : b = a
    · by_cases z : H b = none
      · exact z
      · rw [q] at z e
        rw [hNK z] at e
        cases e
    · exact hH b q
  have free_ns : ∀ {b : Addr} {f : Str → Option Value}, t.heap.Ns b f → (hidT t.heap H).Ns b f := fun {b f} ⟨o, es, ep, e, d, r⟩ => by
    refine ⟨o, es, ep, hidT_get e ?_, d, r⟩
    by_cases q : b = a
    · rw [q] at e
      have same := e.symm.trans at_
      cases same
      cases (show Data.seq vs.toArray _ = Data.dict es ep from d)
    · exact hH b q
  have kin2 : K.In (hidT t.heap H) := fun b o e => hidT_get (kin b o e) (free_of e)
  obtain ⟨mc, nl1, nl2⟩ := nl
  have env : Env0 P w K mg (hidT t.heap H) callerA [] t H :=
    { frames := rfl, mod := ⟨kin2, free_ns gl, ⟨mb, free_ns bl, bt⟩, mc, free_ns nl1, nl2⟩, bs := fun b o e => of_hidT e,
      bsz := Nat.le_of_eq (hidT_size _ _), funs := trivial, frf := (fun b z => absurd z (List.not_mem_nil)), hok := hOk, bare := .of_eq ng }
  have Rp := lone (K := K) hS
  have told : spM K mg m [.ref a] H (fun v _ => v = .bl true) (fun _ _ _ => False) := by
    refine ⟨fun _ => False, [.val (scriptD ns)], rfl, Rp, fun c z => ?_, ?_⟩
    · cases z with
      | head => rfl
      | tail _ z => cases z
    · rw [true_]
      intro v H' _ hd
      simpa only [Dat] using hd
  have run := (F _ kin2 (free_ns gl)).run callerA [] t H ⟨[.ref a], []⟩ [.ref a] [.ref a] _ _ room rfl env (bd t (.ref a)) (.cons rfl .nil) told
  refine codeAny_mono run fun r u z => ?_
  match r, z with
  | .error e, z => exact (noExc z).elim
  | .ok .next, z => exact z.elim
  | .ok .brk, z => exact z.elim
  | .ok .cont, z => exact z.elim
  | .ok (.ret y), ⟨v, H', os, bare, un, ok', rv, (q : v = .bl true)⟩ =>
    rw [q] at rv
    obtain rfl : y = Value.bool true := rv
    refine ⟨rfl, OldK.of_keep fun b o e => ?_, os, bare⟩
    by_cases n : H b = none
    · exact un.keep b o e n (fun z => by cases z) (fun z => by cases z)
    · have q2 : b = a := by
        by_cases q2 : b = a
        · exact q2
        · exact absurd (hH b q2) n
      subst q2
      rcases hS with ⟨z, _⟩ | ⟨ob, z⟩
      · exact absurd z n
      · obtain ⟨e1, _⟩ := hOk b _ z
        obtain ⟨e2, _⟩ := ok' b _ (un.frzs b ob _ z)
        have same := e.symm.trans e1
        cases same
        exact e2
/-- the goal hc of a head by facts -/
theorem law_end {l : PySem.W.OpenLaw} {n k : Nat} {q : Program} {loose : List Str} {XP : (Str → Option Value) → Heap → Prop} {YP : World → Heap → Prop} {d : DefRec} {x : Str} {m : Mir}
    (most : l.most = some n) (le : n ≤ sizeLine) (dfl : d.params.defaults = []) (room : Room k callerA)
    (F : ∀ (w : World) (mg : Str → Option Value) (fa : Addr) (h : Heap), YP w h → h.Ns mainGlobals mg → mg d.name = some (.ref fa) →
      ∃ (K : PySem.W.Frag) (fd : FuncData), K.In h ∧ (∀ (s : Shared) (u : Value), BindsTo s fd ⟨[u], []⟩ [(x, u)]) ∧ ∀ base : Heap, K.In base → base.Ns mainGlobals mg → FnG l.prog w K mg base k fa fd [x] m)
    (true_ : ∀ ns : List Int, ns.length ≤ n → (∀ z ∈ ns, Builtin.Int.intBits z ≤ 1048576) → m [.val (scriptD ns)] = .ok (.val (.bool true)) [none]) :
    PySem.W.WalkO q loose XP YP l.row.toRowW d [] (fun f vs => PySem.call f vs) := by
  refine Att.attach_callB most dfl fun w s₀ t mg mb fa o pm cd doc a vs ns G Y _ _ _ hm ha hi hl hz hg => ?_
  obtain ⟨K, fd, kin, hb, hF⟩ := F w mg fa _ Y G.T.g hm
  exact law_run kin G.T.g G.T.b G.T.builtins G.T.nolimit hg ha hi (Nat.le_trans hl le) room hF hb (true_ ns hl hz)
end Dl

set_option Elab.async false
set_option linter.all false
set_option maxRecDepth 100000
namespace Dl
open PySem PySem.Spec PyProof.Rows L2
section
variable {X : Cx} {W : WX} {Mi : Msk} {σ : St} {H H1 : Hp} {δ δ1 : DEnv} {Fv : Fe D} {pos : Pos} {e : Expr}
/-- an operand by a datum -/
def fOf (F : Fe D) : Fe Opd := fun δ => (F δ).bind fun d δ' => .ok (.tmp d) δ'
theorem dp_o (h : DE X W e Fv) : DP X W e (fOf Fv) := dp_of h
/-- a module's int, text -/
theorem de_gint {x : Str} {i : Int} (hm : ∃ t, X.mg x = some (.int i t)) (hg : Gl X x) (hdb : (x == ("__debug__" : Str)) = false := by decide) : DE X W (.Name x pos) (fC (.int i)) := by
  obtain ⟨t, hm⟩ := hm
  exact de_glob hg hm (v := .int i) ⟨t, rfl⟩ (fun M H => .mkInt) hdb
theorem de_gstr {x z : Str} (hm : ∃ t, X.mg x = some (.str z t)) (hg : Gl X x) (hdb : (x == ("__debug__" : Str)) = false := by decide) : DE X W (.Name x pos) (fC (.str z)) := by
  obtain ⟨t, hm⟩ := hm
  exact de_glob hg hm (v := .str z) ⟨t, rfl⟩ (fun M H => .mkStr) hdb

/-! ### walks over lists, tuples, texts alike -/
def signsD (z : Str) : List D := z.cps.toList.map fun c => .str ⟨#[c]⟩
def anyI : D → DEnv → R (List D)
  | .list ds, δ => .ok ds δ
  | .tuple ds, δ => .ok ds δ
  | .str z, δ => .ok (signsD z) δ
  | _, _ => .bad
def iAny (F : Fe D) : Fe (List D) := fun δ => (F δ).bind anyI
def tSeqI (K : PySem.W.Frag) (tl : TE) : TI := fun σ H R => tl σ H fun x H1 => (∃ a xs, x = .ref a ∧ SqL K H1 a xs ∧ R (Itl K a) H1) ∨ (∃ a xs, x = .ref a ∧ SqT K H1 a xs ∧ R (Itt K a) H1) ∨ ∃ z, x = .str z ∧ R (Its z) H1
theorem pi_seq {tg l : Expr} {tl : TE} (hl : PE X l tl) : PI X tg l (tSeqI X.K tl) := by
  constructor
  intro pins s σ H R I h
  refine thn (hl.run pins s σ H _ I h) fun v s1 z => ?_
  obtain ⟨x, H1, I1, r1, q1⟩ := z
  rcases q1 with ⟨a, xs, rfl, sq, q⟩ | ⟨a, xs, rfl, sq, q⟩ | ⟨z, rfl, q⟩
  · cases r1
    obtain ⟨its, _, p, _⟩ := I1.list sq
    exact wpAny_pyIter_list p.isList (pi_one (tk := s1.toks) I1 _ (turn_list a _) ⟨_, Heap.get?_push_size _ rfl, rfl, rfl⟩ q)
  · cases r1
    obtain ⟨its, _, p, _⟩ := I1.tuple sq
    exact wpAny_pyIter_tuple (show s1.heap.IsTuple a its.toArray from p) (pi_one (tk := s1.toks) I1 _ (turn_tuple a _) ⟨_, Heap.get?_push_size _ rfl, rfl, rfl⟩ q)
  · obtain ⟨t, rfl⟩ := r1
    cases asc : z.cps.all (· < 128) with
    | false => exact wpAny_pyIter_wide asc (pi_one (tk := s1.toks) I1 _ (turn_str _ z t "str_iterator" (.inr rfl)) ⟨_, Heap.get?_push_size _ rfl, rfl, rfl⟩ q)
    | true => exact wpAny_pyIter_ascii asc (pi_one (tk := s1.toks) I1 _ (turn_str _ z t "str_ascii_iterator" (.inl rfl)) ⟨_, Heap.get?_push_size _ rfl, rfl, rfl⟩ q)
theorem its_R {M : Msk} {z : Str} : ItR X M H (Its z) (signsD z) := by
  intro M' H' _ _
  have len : (signsD z).length = z.cps.size := by
    unfold signsD
    rw [List.length_map, Array.length_toList]
  refine ⟨fun i d e => ?_, by rw [len]; exact Nat.le_refl _⟩
  unfold signsD at e
  rw [List.getElem?_map] at e
  obtain ⟨c, hc, rfl⟩ := Option.map_eq_some_iff.mp e
  rw [Array.getElem?_toList] at hc
  have lt : i < z.cps.size := (Array.getElem?_eq_some_iff.mp hc).1
  refine ⟨lt, fun x H'' y => ?_⟩
  obtain ⟨rfl, c', hc', rfl⟩ := y
  rw [hc] at hc'
  cases hc'
  exact ⟨Al.refl, .mkStr⟩
theorem any_rd {Q : It → Hp → Prop} (q : tG X W (pI X) (iAny Fv) σ H Q) : tSeqI X.K (tG X W (pD X) Fv) σ H Q := by
  obtain ⟨Mi, δ, R, q⟩ := tG_bind (P := pD X) q
  refine ⟨Mi, δ, R, q.imp fun v H1 ⟨Mi, d, δ1, R1, p, r⟩ => ?_⟩
  have p' : Dat X.K (msk Mi σ δ1) H1 d v := p
  cases d with
  | list ds =>
    simp only [Dat] at p'
    obtain ⟨a, xs, rfl, l, rr⟩ := p'
    exact .inl ⟨a, xs, rfl, l.sq, r _ H1 (Go.refl R1) (itl_R l rr)⟩
  | tuple ds =>
    simp only [Dat] at p'
    obtain ⟨a, xs, rfl, l, rr⟩ := p'
    exact .inr (.inl ⟨a, xs, rfl, l.sq, r _ H1 (Go.refl R1) (itt_R l rr)⟩)
  | str z =>
    have e : v = .str z := by simpa only [Dat] using p'
    exact .inr (.inr ⟨z, e, r _ H1 (Go.refl R1) its_R⟩)
  | _ => exact False.elim r
theorem di_any {tg iter : Expr} (h : DE X W iter Fv) : DI X W tg iter (iAny Fv) := PI.imp (pi_seq h) fun _ _ _ q => any_rd q

/-! ### x op= e -/
/-- of ints -/
def sAugN (i : Nat) (f : Int → Int → Int) (F : Fe D) : Fs := fun δ =>
  match peek δ i with
  | some (.int x) => (F δ).bindS fun d δ1 =>
    match d with
    | .int y => if free δ1 i = true then .next (δ1.set i (some (.val (.int (f x y))))) else .bad
    | _ => .bad
  | _ => .bad
theorem peek_at {i : Nat} {d : D} (R : Rep X.K Mi σ H δ) (h : peek δ i = some d) : ∃ v, σ[i]? = some (some v) ∧ Pk X.K (msk Mi σ δ) H d v := by
  unfold peek at h
  split at h
  · rename_i e
    cases h
    obtain ⟨v, ev, r⟩ := R.cell i _ e
    exact ⟨v, ev, .inl r⟩
  · rename_i e
    cases h
    obtain ⟨v, ev, a, rfl, _, c⟩ := R.cell i _ e
    exact ⟨_, ev, .inr ⟨a, rfl, c⟩⟩
  · rename_i e
    cases h
    obtain ⟨v, ev, a, rfl, _, c⟩ := R.cell i _ e
    exact ⟨_, ev, .inr ⟨a, rfl, c⟩⟩
  · cases h
theorem ds_augN {i : Nat} {x : Str} {op : Operator} {f : Int → Int → Int} {p : Pos} (ho : PIp X op (ipI f)) (hN : X.N.Nodup) (hi : X.N[i]? = some x) (hx : Loc X.env.scope x) (he : DE X W e Fv) (hf : X.fn x = true ∨ X.env.scope.names.lookup x = some .local := by first | exact .inl rfl | exact .inr rfl | assumption) :
    DS X W (.AugAssign (.Name x p) op e pos) (sAugN i f Fv) := by
  refine PS.imp (ps_aug hN hi hx he ho hf) fun σ H E q => ?_
  obtain ⟨Mi, δ, R, q⟩ := q
  unfold sAugN at q
  split at q
  · rename_i k ek
    obtain ⟨v, ev, pk⟩ := peek_at R ek
    refine ⟨v, ev, Mi, δ, R, (RunS.bind (P := pD X) q).imp fun w H2 ⟨d, δ2, g2, pd, r2⟩ => ?_⟩
    split at r2
    · rename_i y
      split at r2
      · rename_i hfr
        have ey : w = .int y := by simpa only [pD, Dat] using pd
        refine ⟨k, y, pk.int, ey, ?_⟩
        obtain ⟨h1, h2⟩ := free_un hfr
        exact r2 _ _ (Go.store g2.rep h1 h2 .mkInt)
      · exact r2.elim
    · exact r2.elim
  · exact q.elim
/-- of texts -/
def sAugT (i : Nat) (F : Fe D) : Fs := fun δ =>
  match peek δ i with
  | some (.str x) => (F δ).bindS fun d δ1 =>
    match d with
    | .str y => if free δ1 i = true ∧ x.length + y.length ≤ 1000000 then .next (δ1.set i (some (.val (.str (x ++ y))))) else .bad
    | _ => .bad
  | _ => .bad
theorem Ok.blk {k : Nat} {s : Shared} {scope : Scope} {ce : Env} {fp : List Addr} (o : Ok X k) : Ok (X.blk s H scope ce fp) k := ⟨o.room, o.gd⟩
/-- x[i] = e, x a slot -/
theorem ds_itemV {v : Nat} {x : Str} {i : Expr} {p p2 : Pos} {Fi : Fe D} (hN : X.N[v]? = some x) (hv : Vis X.env.scope x) (hi : DE X W i Fi) (h : DE X W e Fv) (hs : swapsWithSole [.Subscript (.Name x p) i p2] e pos.line X.env = pure false := by rfl) (hw : swappedStores [.Subscript (.Name x p) i p2] e X.env = pure none := by rfl)
    (h1 : (assignEach [.Subscript (.Name x p) i p2] X.env).map (fun x => x.2) = [assign (.Subscript (.Name x p) i p2) X.env] := by rfl)
    (ha : ∀ u, assign (.Subscript (.Name x p) i p2) X.env u = (do
      let ov ← holding [u] (eval (.Name x p) X.env)
      let iv ← holding [u, ov] (eval i X.env)
      standAt p2
      holding [u, ov, iv] (setItem ov iv u)
      release [u, ov, iv] []) := by intro _; rfl)
    (hd : (x == ("__debug__" : Str)) = false := by decide +kernel) (hcd : (x == ("__classdict__" : Str)) = false := by decide +kernel) :
    DS X W (.Assign [.Subscript (.Name x p) i p2] e pos) (sItem v Fi Fv) :=
  ds_item hN hv hi h hs hw h1 (pg_sub (pe_var hN hv hd hcd) hi set_list ha)
/-- a, b, c = e1, e2, e3 -/
def sPar3 (i j l : Nat) (F : Fe (List D)) : Fs := fun δ => (F δ).bindS fun ds δ1 =>
  match ds with
  | [a, b, c] => if (free δ1 i = true ∧ free δ1 j = true ∧ free δ1 l = true) then .next (((δ1.set i (some (.val a))).set j (some (.val b))).set l (some (.val c))) else .bad
  | _ => .bad
theorem ds_par3 {st : Stmt} {i j l : Nat} {Fl : Fe (List D)} (hp : PS X st (tPar3 i j l (tG X W (pA X) Fl))) : DS X W st (sPar3 i j l Fl) := by
  refine PS.imp hp fun σ H E q => ?_
  obtain ⟨Mi, δ, R, q⟩ := tS_bind (P := pA X) q
  refine ⟨Mi, δ, R, q.imp fun vs H1 z => ?_⟩
  obtain ⟨Mi, ds, δ1, R1, p, r⟩ := z
  split at r
  · rename_i a b c
    split at r
    · rename_i hf
      obtain ⟨f1, f2, f3⟩ := hf
      have all : DatAll X.K (msk Mi σ δ1) H1 [a, b, c] vs := p
      obtain ⟨u, r1, rfl, h1, k1⟩ := all.cons_inv
      obtain ⟨v, r2, rfl, h2, k2⟩ := k1.cons_inv
      obtain ⟨w, r3, rfl, h3, k3⟩ := k2.cons_inv
      have e3 := k3.nil_inv
      subst e3
      obtain ⟨a1, a2⟩ := free_un f1
      have g1 := Go.store R1 a1 a2 h1
      obtain ⟨b1, b2⟩ := free_un (free_set (i := i) (c := .val a) f2 rfl)
      have g2 := g1.trans (Go.store g1.rep b1 b2 (Dat.mv (g1.mv R1) h2))
      obtain ⟨c1, c2⟩ := free_un (free_set (i := j) (c := .val b) (free_set (i := i) (c := .val a) f3 rfl) rfl)
      exact ⟨u, v, w, rfl, r _ _ (g2.trans (Go.store g2.rep c1 c2 (Dat.mv (g2.mv R1) h3)))⟩
    · exact False.elim r
  · exact False.elim r
/-- x = [E for ..], on one line: the name is stored within the comprehension's frame -/
theorem ds_setLc {i : Nat} {y : Str} {py : Pos} {elt tg iter : Expr} {ifs : List Expr} {scope : Scope} {own : List (Str × Nat)} {sl : List Nat} {p2 spos : Pos} {I : Fe (List D)} {B : Bd} {T : Fe Bool} {E : Fe D}
    (hc : X.calm = true) (hN : X.N.Nodup) (hy : X.N[i]? = some y) (hyl : X.env.scope.names.lookup y = some .local) (hk : X.env.scope.kind = .function) (hl : (py.line == p2.line) = true) (hno : (scope.names.any fun q => q.1 == y && (q.2 == .local || q.2 == .cell)) = false)
    (hi : DI X W tg iter I) (ok : BlkOk X.N X.env.scope scope own) (hs : ∀ j ∈ sl, j ∈ own.map (·.2))
    (hg : ∀ (s : Shared) (H : Hp) (C : Addr) (cl : List (Str × Addr)) (fp : List Addr), DG (X.blk s H scope (compEnvC scope cl C X.env) fp) tg sl B)
    (ht : ∀ (s : Shared) (H : Hp) (C : Addr) (cl : List (Str × Addr)) (fp : List Addr), DTs (X.blk s H scope (compEnvC scope cl C X.env) fp) noW ifs T)
    (he : ∀ (s : Shared) (H : Hp) (C : Addr) (cl : List (Str × Addr)) (fp : List Addr), DE (X.blk s H scope (compEnvC scope cl C X.env) fp) noW elt E) (hf : ∀ x, foldedSetIterable iter X.env x = pure x := by intro _; rfl) :
    DS X W (.Assign [.Name y py] (.ListComp elt [⟨tg, iter, ifs, 0⟩] scope p2) spos) (sSetO i (fComp (own.map (·.2)) I B T E)) :=
  PS.imp (ps_setLc (g := tB1 X sl B) (tt := tG X noW pB T) (te := tG X noW (pD X) E) hc hN hy hyl (sw_true hk hyl hl hno) hi ok hg ht he hf) fun _ _ _ q => comp_rd hs (setO_rd q)
theorem takesN : Takes X noW := fun _ _ z => by
  obtain ⟨_, _, _, _, _, _, _, _, _, _, _, _, _, _, _, _, no⟩ := z
  exact no.elim
end
end Dl

set_option Elab.async false
set_option linter.all false
set_option maxRecDepth 100000
/-! Dl14: how mirrors are evaluated: stages without binders, for simp. -/
namespace Dl
open PySem PySem.Spec PyProof.Rows L2
section
variable {α β : Type} {δ : DEnv} {d d1 d2 : D}

/-! ### results -/
theorem bind_ok {a : α} {g : α → DEnv → R β} : R.bind (.ok a δ) g = g a δ := rfl
theorem bind_err {x : Exn} {g : α → DEnv → R β} : R.bind (.err x δ) g = .err x δ := rfl
theorem bindS_ok {a : α} {g : α → DEnv → RS} : R.bindS (.ok a δ) g = g a δ := rfl
theorem bindS_err {x : Exn} {g : α → DEnv → RS} : R.bindS (.err x δ) g = .err x δ := rfl
theorem of_some {a : α} : R.of (some a) δ = .ok a δ := rfl
theorem of_none : R.of (none : Option α) δ = .bad := rfl

/-! ### slots -/
/-- the content of a slot -/
def slot : DEnv → Nat → Option Cell
  | [], _ => none
  | x :: _, 0 => x
  | _ :: l, n + 1 => slot l n
theorem slot0 {x : Option Cell} {l : DEnv} : slot (x :: l) 0 = x := rfl
theorem slotS {x : Option Cell} {l : DEnv} {n : Nat} : slot (x :: l) (n + 1) = slot l n := rfl
theorem slot_eq : ∀ (δ : DEnv) (i : Nat), slot δ i = (δ[i]?).join
  | [], i => by simp [slot]
  | x :: l, 0 => by simp [slot]
  | x :: l, i + 1 => by simp [slot, slot_eq l i]
def rdC (i : Nat) (δ : DEnv) : Option Cell → R D
  | some (.val d) => .ok d δ
  | some (.own d) => .ok d (δ.set i (some (.val d)))
  | _ => .bad
theorem rdVar_e (i : Nat) : rdVar i δ = rdC i δ (slot δ i) := by
  rw [slot_eq]
  unfold rdVar
  cases h : δ[i]? with
  | none => rfl
  | some x => cases x with
    | none => rfl
    | some c => cases c <;> rfl
theorem rdC_val {i : Nat} : rdC i δ (some (.val d)) = .ok d δ := rfl
theorem rdC_own {i : Nat} : rdC i δ (some (.own d)) = .ok d (δ.set i (some (.val d))) := rfl
def cellD : Option Cell → Option D
  | some (.val d) => some d
  | some (.own d) => some d
  | some (.ref d) => some d
  | _ => none
theorem cellD_val : cellD (some (.val d)) = some d := rfl
theorem cellD_own : cellD (some (.own d)) = some d := rfl
theorem cellD_ref : cellD (some (.ref d)) = some d := rfl
theorem peek_e (i : Nat) : peek δ i = cellD (slot δ i) := by
  rw [slot_eq]
  unfold peek
  cases h : δ[i]? with
  | none => rfl
  | some x => cases x with
    | none => rfl
    | some c => cases c <;> rfl
def pkC (i : Nat) (δ : DEnv) : Option D → R Opd
  | some _ => .ok (.var i) δ
  | none => .bad
theorem pkVar_e (i : Nat) : pkVar i δ = pkC i δ (cellD (slot δ i)) := by
  rw [← peek_e]
  unfold pkVar pkC
  cases peek δ i <;> rfl
theorem pkC_some {i : Nat} : pkC i δ (some d) = .ok (.var i) δ := rfl
theorem opd_tmp : opd δ (.tmp d) = some d := rfl
theorem opd_var (i : Nat) : opd δ (.var i) = cellD (slot δ i) := by rw [← peek_e]; rfl
def lendC : Option Cell → Option D
  | some (.own d) => some d
  | some (.ref d) => some d
  | _ => none
theorem lend_e (i : Nat) : lendable δ i = lendC (slot δ i) := by
  rw [slot_eq]
  unfold lendable
  cases h : δ[i]? with
  | none => rfl
  | some x => cases x with
    | none => rfl
    | some c => cases c <;> rfl
theorem lendC_own : lendC (some (.own d)) = some d := rfl
theorem lendC_ref : lendC (some (.ref d)) = some d := rfl
/-- is the slot no lent one -/
def soft : Option Cell → Bool
  | some (.ref _) => false
  | _ => true
theorem soft_none : soft none = true := rfl
theorem soft_val : soft (some (.val d)) = true := rfl
theorem soft_own : soft (some (.own d)) = true := rfl
/-- a store -/
def stor : DEnv → Nat → Cell → Option DEnv
  | [], _, _ => none
  | x :: l, 0, c => if soft x = true then some (some c :: l) else none
  | x :: l, n + 1, c => (stor l n c).map (x :: ·)
theorem stor_e {c : Cell} : ∀ (δ : DEnv) (i : Nat), stor δ i c = if free δ i = true then some (δ.set i (some c)) else none
  | [], i => by simp [stor, free]
  | x :: l, 0 => by
    have e : isRef ((x :: l)[0]?) = !soft x := by
      cases x with
      | none => rfl
      | some k => cases k <;> rfl
    simp only [stor, free, e, List.length_cons, Bool.not_not]
    simp
  | x :: l, i + 1 => by
    have e : free (x :: l) (i + 1) = free l i := by simp [free]
    rw [e, stor, stor_e l i]
    split <;> simp
theorem stor_hit {x : Option Cell} {l : DEnv} {c : Cell} (h : soft x = true) : stor (x :: l) 0 c = some (some c :: l) := by
  simp [stor, h]
theorem stor_n {l : DEnv} {c : Cell} : stor (none :: l) 0 c = some (some c :: l) := rfl
theorem stor_v {l : DEnv} {c : Cell} : stor (some (.val d) :: l) 0 c = some (some c :: l) := rfl
theorem stor_o {l : DEnv} {c : Cell} : stor (some (.own d) :: l) 0 c = some (some c :: l) := rfl
theorem stor_next {x : Option Cell} {l : DEnv} {n : Nat} {c : Cell} : stor (x :: l) (n + 1) c = (stor l n c).map (x :: ·) := rfl
theorem map_some' {l : DEnv} {x : Option Cell} : (some l).map (x :: ·) = some (x :: l) := rfl

/-! ### expressions -/
theorem fC_e : fC d δ = .ok d δ := rfl
def ofK (d : D) (δ : DEnv) : R Opd := .ok (.tmp d) δ
theorem fOf_e (F : Fe D) : fOf F δ = (F δ).bind ofK := rfl
theorem ofK_e : ofK d δ = .ok (.tmp d) δ := rfl
def op2 (f : D → D → Option D) : Option D → Option D → Option D
  | some a, some b => f a b
  | _, _ => none
theorem op2_e {f : D → D → Option D} : op2 f (some d1) (some d2) = f d1 d2 := rfl
def bin1 (f : D → D → Option D) (G : Fe Opd) (a : Opd) (δ : DEnv) : R D := (G δ).bind fun b δ2 => R.of (op2 f (opd δ2 a) (opd δ2 b)) δ2
def bin2 (f : D → D → Option D) (a b : Opd) (δ : DEnv) : R D := R.of (op2 f (opd δ a) (opd δ b)) δ
theorem op2_bind {f : D → D → Option D} {x y : Option D} : (x.bind fun da => y.bind fun db => f da db) = op2 f x y := by
  cases x with
  | none => rfl
  | some a => cases y <;> rfl
theorem fBin_e (f : D → D → Option D) (F G : Fe Opd) : fBin f F G δ = (F δ).bind (bin1 f G) := by
  unfold fBin
  congr 1
  funext a δ1
  unfold bin1
  congr 1
  funext b δ2
  rw [op2_bind]
theorem bin1_e (f : D → D → Option D) (G : Fe Opd) (a : Opd) : bin1 f G a δ = (G δ).bind (bin2 f a) := rfl
theorem bin2_e (f : D → D → Option D) (a b : Opd) : bin2 f a b δ = R.of (op2 f (opd δ a) (opd δ b)) δ := rfl
def op1 (f : D → Option D) : Option D → Option D
  | some a => f a
  | none => none
theorem op1_e {f : D → Option D} : op1 f (some d) = f d := rfl
def un1 (f : D → Option D) (a : Opd) (δ : DEnv) : R D := R.of (op1 f (opd δ a)) δ
theorem fUn_e (f : D → Option D) (F : Fe Opd) : fUn f F δ = (F δ).bind (un1 f) := by
  unfold fUn
  congr 1
  funext a δ1
  unfold un1
  cases opd δ1 a <;> rfl
theorem un1_e (f : D → Option D) (a : Opd) : un1 f a δ = R.of (op1 f (opd δ a)) δ := rfl
theorem fNil_e : fNil δ = .ok [] δ := rfl
def cons2 (d : D) (ds : List D) (δ : DEnv) : R (List D) := .ok (d :: ds) δ
def cons1 (G : Fe (List D)) (d : D) (δ : DEnv) : R (List D) := (G δ).bind (cons2 d)
theorem fCons_e (F : Fe D) (G : Fe (List D)) : fCons F G δ = (F δ).bind (cons1 G) := rfl
theorem cons1_e (G : Fe (List D)) (d : D) : cons1 G d δ = (G δ).bind (cons2 d) := rfl
theorem cons2_e (d : D) (ds : List D) : cons2 d ds δ = .ok (d :: ds) δ := rfl
theorem apCons_e (F : Fe D) (G : Fe (List D)) : apCons F G δ = (F δ).bind (cons1 G) := rfl
def tup1 (ds : List D) (δ : DEnv) : R D := R.of (okLen ds (.tuple ds)) δ
def lst1 (ds : List D) (δ : DEnv) : R D := R.of (okLen ds (.list ds)) δ
theorem fTup_e (F : Fe (List D)) : fTup F δ = (F δ).bind tup1 := rfl
theorem fLst_e (F : Fe (List D)) : fLst F δ = (F δ).bind lst1 := rfl
theorem tup1_e (ds : List D) (h : ds.length ≤ 1000000) : tup1 ds δ = .ok (.tuple ds) δ := by
  unfold tup1 okLen
  rw [if_pos h]
  rfl
theorem lst1_e (ds : List D) (h : ds.length ≤ 1000000) : lst1 ds δ = .ok (.list ds) δ := by
  unfold lst1 okLen
  rw [if_pos h]
  rfl
theorem lNil_e : lNil δ = .ok [] δ := rfl
def lc2' (d : Opd) (ds : List Opd) (δ : DEnv) : R (List Opd) := .ok (d :: ds) δ
def lc1' (G : Fe (List Opd)) (d : Opd) (δ : DEnv) : R (List Opd) := (G δ).bind (lc2' d)
theorem lCons_e (F : Fe Opd) (G : Fe (List Opd)) : lCons F G δ = (F δ).bind (lc1' G) := rfl
theorem lc1_e (G : Fe (List Opd)) (d : Opd) : lc1' G d δ = (G δ).bind (lc2' d) := rfl
theorem lc2_e (d : Opd) (ds : List Opd) : lc2' d ds δ = .ok (d :: ds) δ := rfl
def opL (δ : DEnv) : List Opd → Option (List D)
  | [] => some []
  | o :: os => op2L (opd δ o) (opL δ os)
where op2L : Option D → Option (List D) → Option (List D)
  | some d, some ds => some (d :: ds)
  | _, _ => none
theorem opds_e : ∀ os : List Opd, opds δ os = opL δ os
  | [] => rfl
  | o :: os => by
    unfold opds opL
    rw [opds_e os]
    cases opd δ o with
    | none => rfl
    | some d => cases opL δ os <;> rfl
theorem opL_nil : opL δ [] = some [] := rfl
theorem opL_cons (o : Opd) (os : List Opd) : opL δ (o :: os) = opL.op2L (opd δ o) (opL δ os) := rfl
theorem op2L_e {ds : List D} : opL.op2L (some d) (some ds) = some (d :: ds) := rfl
def opN (f : List D → Option D) : Option (List D) → Option D
  | some ds => f ds
  | none => none
theorem opN_e {f : List D → Option D} {ds : List D} : opN f (some ds) = f ds := rfl
def call1 (f : List D → Option D) (os : List Opd) (δ : DEnv) : R D := R.of (opN f (opL δ os)) δ
theorem fCall_e (f : List D → Option D) (F : Fe (List Opd)) : fCall f F δ = (F δ).bind (call1 f) := by
  unfold fCall
  congr 1
  funext a δ1
  unfold call1
  rw [opds_e]
  cases opL δ1 a <;> rfl
theorem call1_e (f : List D → Option D) (os : List Opd) : call1 f os δ = R.of (opN f (opL δ os)) δ := rfl
def isi1 (T : String) (o : Opd) (δ : DEnv) : R D := R.of (op1 (fun d => some (.bool (isiB T d))) (opd δ o)) δ
theorem fIsi_e (T : String) (F : Fe Opd) : fIsi T F δ = (F δ).bind (isi1 T) := by
  unfold fIsi
  congr 1
  funext a δ1
  unfold isi1
  cases opd δ1 a <;> rfl
theorem isi1_e (T : String) (o : Opd) : isi1 T o δ = R.of (op1 (fun d => some (.bool (isiB T d))) (opd δ o)) δ := rfl
def meth2 (g : D → List D → Option D) (o : Opd) (os : List Opd) (δ : DEnv) : R D := R.of (opM g (opd δ o) (opL δ os)) δ
where opM (g : D → List D → Option D) : Option D → Option (List D) → Option D
  | some d, some ds => g d ds
  | _, _ => none
def tyO : Option D → Option String
  | some d => some (tyN d)
  | none => none
def meth1 (T : String) (g : D → List D → Option D) (G : Fe (List Opd)) (o : Opd) (δ : DEnv) : R D :=
  if tyO (opd δ o) = some T ∧ (T = "str" ∨ T = "list" ∨ T = "dict") then (G δ).bind (meth2 g o) else .bad
theorem fMeth_e (T : String) (g : D → List D → Option D) (F : Fe Opd) (G : Fe (List Opd)) : fMeth T g F G δ = (F δ).bind (meth1 T g G) := by
  unfold fMeth
  congr 1
  funext o δ1
  unfold meth1
  have e : (opd δ1 o).map tyN = tyO (opd δ1 o) := by cases opd δ1 o <;> rfl
  rw [e]
  split
  · congr 1
    funext os δ2
    unfold meth2
    rw [opds_e]
    cases opd δ2 o with
    | none => rfl
    | some d => cases opL δ2 os <;> rfl
  · rfl
def methT (T : String) (g : D → List D → Option D) (G : Fe (List Opd)) (o : Opd) (δ : DEnv) (x : Option D) : R D :=
  if tyO x = some T ∧ (T = "str" ∨ T = "list" ∨ T = "dict") then (G δ).bind (meth2 g o) else .bad
theorem meth1_e {T : String} {g : D → List D → Option D} {G : Fe (List Opd)} {o : Opd} : meth1 T g G o δ = methT T g G o δ (opd δ o) := rfl
theorem methT_s {g : D → List D → Option D} {G : Fe (List Opd)} {o : Opd} {z : Str} : methT "str" g G o δ (some (.str z)) = (G δ).bind (meth2 g o) := if_pos ⟨rfl, .inl rfl⟩
theorem methT_l {g : D → List D → Option D} {G : Fe (List Opd)} {o : Opd} {z : List D} : methT "list" g G o δ (some (.list z)) = (G δ).bind (meth2 g o) := if_pos ⟨rfl, .inr (.inl rfl)⟩
theorem tyO_str {z : Str} : tyO (some (.str z)) = some "str" := rfl
theorem tyO_list {z : List D} : tyO (some (.list z)) = some "list" := rfl
theorem meth2_e {g : D → List D → Option D} {o : Opd} {os : List Opd} : meth2 g o os δ = R.of (meth2.opM g (opd δ o) (opL δ os)) δ := rfl
theorem opM_e {g : D → List D → Option D} {ds : List D} : meth2.opM g (some d) (some ds) = g d ds := rfl
def sl3 (o : Opd) (l u : Option Int) (δ : DEnv) : R D := R.of (op1 (fun d => sliceF d l u) (opd δ o)) δ
def sl2 (U : Fe (Option Int)) (o : Opd) (l : Option Int) (δ : DEnv) : R D := (U δ).bind (sl3 o l)
def sl1 (L U : Fe (Option Int)) (o : Opd) (δ : DEnv) : R D := (L δ).bind (sl2 U o)
theorem fSlice_e (F : Fe Opd) (L U : Fe (Option Int)) : fSlice F L U δ = (F δ).bind (sl1 L U) := by
  unfold fSlice
  congr 1
  funext o δ1
  unfold sl1
  congr 1
  funext l δ2
  unfold sl2
  congr 1
  funext u δ3
  unfold sl3
  cases opd δ3 o <;> rfl
theorem sl1_e (L U : Fe (Option Int)) (o : Opd) : sl1 L U o δ = (L δ).bind (sl2 U o) := rfl
theorem sl2_e (U : Fe (Option Int)) (o : Opd) (l : Option Int) : sl2 U o l δ = (U δ).bind (sl3 o l) := rfl
theorem sl3_e (o : Opd) (l u : Option Int) : sl3 o l u δ = R.of (op1 (fun d => sliceF d l u) (opd δ o)) δ := rfl
theorem ptNone_e : ptNone δ = .ok none δ := rfl
theorem ptSome_e (F : Fe D) : ptSome F δ = (F δ).bind toPt := rfl
theorem toPt_e {i : Int} : toPt (.int i) δ = .ok (some i) δ := rfl
theorem toB_e {b : Bool} : toB (.bool b) δ = .ok b δ := rfl
theorem fB_e (F : Fe D) : fB F δ = (F δ).bind toB := rfl
def ch4 (g : D → D → Option D) (b c : Opd) (δ : DEnv) : R D := R.of (op2 g (opd δ b) (opd δ c)) δ
def ch3 (g : D → D → Option D) (J : Fe Opd) (b : Opd) (k : Bool) (δ : DEnv) : R D := if k = true then (J δ).bind (ch4 g b) else .ok (.bool false) δ
def ch2 (f g : D → D → Option D) (J : Fe Opd) (a b : Opd) (δ : DEnv) : R D := ((R.of (op2 f (opd δ a) (opd δ b)) δ).bind toB).bind (ch3 g J b)
def ch1 (f g : D → D → Option D) (G J : Fe Opd) (a : Opd) (δ : DEnv) : R D := (G δ).bind (ch2 f g J a)
theorem fChain_e (f g : D → D → Option D) (F G J : Fe Opd) : fChain f g F G J δ = (F δ).bind (ch1 f g G J) := by
  unfold fChain
  congr 1
  funext a δ1
  unfold ch1
  congr 1
  funext b δ2
  unfold ch2
  rw [op2_bind, R.bind_assoc]
  congr 1
  funext d δ3
  congr 1
  funext k δ4
  unfold ch3
  split
  · congr 1
    funext c δ5
    unfold ch4
    rw [op2_bind]
  · rfl
theorem ch1_e (f g : D → D → Option D) (G J : Fe Opd) (a : Opd) : ch1 f g G J a δ = (G δ).bind (ch2 f g J a) := rfl
theorem ch2_e (f g : D → D → Option D) (J : Fe Opd) (a b : Opd) : ch2 f g J a b δ = ((R.of (op2 f (opd δ a) (opd δ b)) δ).bind toB).bind (ch3 g J b) := rfl
theorem ch3_t (g : D → D → Option D) (J : Fe Opd) (b : Opd) : ch3 g J b true δ = (J δ).bind (ch4 g b) := rfl
theorem ch3_f (g : D → D → Option D) (J : Fe Opd) (b : Opd) : ch3 g J b false δ = .ok (.bool false) δ := rfl
theorem ch4_e (g : D → D → Option D) (b c : Opd) : ch4 g b c δ = R.of (op2 g (opd δ b) (opd δ c)) δ := rfl
def and1 (G : Fe Bool) (b : Bool) (δ : DEnv) : R Bool := if b = true then G δ else .ok false δ
def or1 (G : Fe Bool) (b : Bool) (δ : DEnv) : R Bool := if b = true then .ok true δ else G δ
def not1 (b : Bool) (δ : DEnv) : R Bool := .ok (!b) δ
theorem fAnd_e (F G : Fe Bool) : fAnd F G δ = (F δ).bind (and1 G) := rfl
theorem fOr_e (F G : Fe Bool) : fOr F G δ = (F δ).bind (or1 G) := rfl
theorem fNot_e (F : Fe Bool) : fNot F δ = (F δ).bind not1 := rfl
theorem and1_t (G : Fe Bool) : and1 G true δ = G δ := rfl
theorem and1_f (G : Fe Bool) : and1 G false δ = .ok false δ := rfl
theorem or1_t (G : Fe Bool) : or1 G true δ = .ok true δ := rfl
theorem or1_f (G : Fe Bool) : or1 G false δ = G δ := rfl
theorem not1_e (b : Bool) : not1 b δ = .ok (!b) δ := rfl
def andV1 (G : Fe D) (b : Bool) (δ : DEnv) : R D := if b = true then G δ else .ok (.bool false) δ
def orV1 (G : Fe D) (b : Bool) (δ : DEnv) : R D := if b = true then .ok (.bool true) δ else G δ
def notV1 (b : Bool) (δ : DEnv) : R D := .ok (.bool (!b)) δ
theorem fAndV_e (F G : Fe D) : fAndV F G δ = ((F δ).bind toB).bind (andV1 G) := by rw [R.bind_assoc]; rfl
theorem fOrV_e (F G : Fe D) : fOrV F G δ = ((F δ).bind toB).bind (orV1 G) := by rw [R.bind_assoc]; rfl
theorem fNotV_e (F : Fe D) : fNotV F δ = ((F δ).bind toB).bind notV1 := by rw [R.bind_assoc]; rfl
theorem andV1_t (G : Fe D) : andV1 G true δ = G δ := rfl
theorem andV1_f (G : Fe D) : andV1 G false δ = .ok (.bool false) δ := rfl
theorem orV1_t (G : Fe D) : orV1 G true δ = .ok (.bool true) δ := rfl
theorem orV1_f (G : Fe D) : orV1 G false δ = G δ := rfl
theorem notV1_e (b : Bool) : notV1 b δ = .ok (.bool (!b)) δ := rfl
def if1 (F G : Fe D) (b : Bool) (δ : DEnv) : R D := if b = true then F δ else G δ
theorem fIf_e (T : Fe Bool) (F G : Fe D) : fIf T F G δ = (T δ).bind (if1 F G) := rfl
theorem if1_t (F G : Fe D) : if1 F G true δ = F δ := rfl
theorem if1_f (F G : Fe D) : if1 F G false δ = G δ := rfl

/-! ### calls -/
def v1 (m : Mir) (ds : List D) (δ : DEnv) : R D := (cellRes (m (ds.map .val)) δ).bind toVal
def vO1 (m : Mir) (ds : List D) (δ : DEnv) : R D := (cellRes (m (ds.map .val)) δ).bind toOwn
theorem fV_e (m : Mir) (F : Fe (List D)) : fV m F δ = (F δ).bind (v1 m) := by
  unfold fV callV
  rw [R.bind_assoc]
  rfl
theorem fVO_e (m : Mir) (F : Fe (List D)) : fVO m F δ = (F δ).bind (vO1 m) := by
  unfold fVO callV
  rw [R.bind_assoc]
  rfl
theorem v1_e (m : Mir) (ds : List D) : v1 m ds δ = (cellRes (m (ds.map .val)) δ).bind toVal := rfl
theorem vO1_e (m : Mir) (ds : List D) : vO1 m ds δ = (cellRes (m (ds.map .val)) δ).bind toOwn := rfl
theorem cellRes_ok {c : Cell} {o : DEnv} : cellRes (.ok c o) δ = .ok c δ := rfl
theorem cellRes_err {x : Exn} {o : DEnv} : cellRes (.err x o) δ = .err x δ := rfl
theorem toVal_v : toVal (.val d) δ = .ok d δ := rfl
theorem toVal_o : toVal (.own d) δ = .ok d δ := rfl
theorem toOwn_o : toOwn (.own d) δ = .ok d δ := rfl
theorem mapV0 : ([] : List D).map Cell.val = [] := rfl
theorem mapV1 {ds : List D} : (d :: ds).map Cell.val = .val d :: ds.map Cell.val := rfl
def apH2 (ds : List D) (δ : DEnv) : R (List D) := .ok (.none :: ds) δ
def apH1 (G : Fe (List D)) (δ : DEnv) : Option D → R (List D)
  | some _ => (G δ).bind apH2
  | none => .bad
theorem apHead_e (i : Nat) (G : Fe (List D)) : apHead i G δ = apH1 G δ (lendC (slot δ i)) := by
  rw [← lend_e]
  unfold apHead apH1
  cases lendable δ i <;> rfl
theorem apH1_e (G : Fe (List D)) : apH1 G δ (some d) = (G δ).bind apH2 := rfl
theorem apH2_e (ds : List D) : apH2 ds δ = .ok (.none :: ds) δ := rfl
def r2 (m : Mir) (p i : Nat) (g : Cell → DEnv → R D) (ds : List D) (δ : DEnv) : Option D → R D
  | some d => if p < ds.length then (cellResR i p (m ((ds.map Cell.val).set p (.ref d))) δ).bind g else .bad
  | none => .bad
def r1 (m : Mir) (p i : Nat) (g : Cell → DEnv → R D) (ds : List D) (δ : DEnv) : R D := r2 m p i g ds δ (lendC (slot δ i))
theorem fR_e (m : Mir) (p i : Nat) (g : Cell → DEnv → R D) (F : Fe (List D)) : fR m p i g F δ = (F δ).bind (r1 m p i g) := by
  unfold fR
  congr 1
  funext ds δ1
  unfold r1
  rw [← lend_e]
  unfold r2
  cases lendable δ1 i <;> rfl
theorem r1_e (m : Mir) (p i : Nat) (g : Cell → DEnv → R D) (ds : List D) : r1 m p i g ds δ = r2 m p i g ds δ (lendC (slot δ i)) := rfl
theorem r2_0 (m : Mir) (i : Nat) (g : Cell → DEnv → R D) (d0 : D) (ds : List D) : r2 m 0 i g (d0 :: ds) δ (some d) = (cellResR i 0 (m (.ref d :: ds.map .val)) δ).bind g := rfl
theorem r2_1 (m : Mir) (i : Nat) (g : Cell → DEnv → R D) (d0 d1 : D) (ds : List D) : r2 m 1 i g (d0 :: d1 :: ds) δ (some d) = (cellResR i 1 (m (.val d0 :: .ref d :: ds.map .val)) δ).bind g := rfl
/-- what was lent comes back -/
def back1 : DEnv → Nat → D → DEnv
  | [], _, _ => []
  | x :: l, 0, d => backC x d :: l
  | x :: l, n + 1, d => x :: back1 l n d
where backC : Option Cell → D → Option Cell
  | some c, d => some (upCell c d)
  | none, _ => none
theorem back1_0 {x : Option Cell} {l : DEnv} : back1 (x :: l) 0 d = back1.backC x d :: l := rfl
theorem back1_S {x : Option Cell} {l : DEnv} {n : Nat} : back1 (x :: l) (n + 1) d = x :: back1 l n d := rfl
theorem backC_own : back1.backC (some (.own d1)) d = some (.own d) := rfl
theorem backC_ref : back1.backC (some (.ref d1)) d = some (.ref d) := rfl
theorem back1_e : ∀ (δ : DEnv) (i : Nat), back1 δ i d = (match δ[i]? with | some (some c) => δ.set i (some (upCell c d)) | _ => δ)
  | [], i => by simp [back1]
  | x :: l, 0 => by cases x <;> simp [back1, back1.backC]
  | x :: l, i + 1 => by
    simp only [back1, back1_e l i, List.getElem?_cons_succ, List.set_cons_succ]
    cases l[i]? with
    | none => rfl
    | some y => cases y <;> rfl
def cR (i : Nat) (c : Cell) (δ : DEnv) : Option Cell → R Cell
  | some (.ref d) => .ok c (back1 δ i d)
  | _ => .ok c δ
theorem cellResR_e {i p : Nat} {c : Cell} {o : DEnv} : cellResR i p (.ok c o) δ = cR i c δ (slot o p) := by
  show R.ok c (unlend i p o δ) = _
  rw [slot_eq]
  unfold unlend
  cases h : o[p]? with
  | none => rfl
  | some x => cases x with
    | none => rfl
    | some k => cases k with
      | ref d =>
        show _ = R.ok c (back1 δ i d)
        rw [back1_e]
        cases h2 : δ[i]? with
        | none => rfl
        | some y => cases y <;> rfl
      | _ => rfl
theorem cR_ref {i : Nat} {c : Cell} : cR i c δ (some (.ref d)) = .ok c (back1 δ i d) := rfl
theorem cR_none {i : Nat} {c : Cell} : cR i c δ none = .ok c δ := rfl

/-! ### statements -/
def seq1 (G : Fs) : RS → RS
  | .next δ => G δ
  | r => r
theorem sSeq_e (F G : Fs) : sSeq F G δ = seq1 G (F δ) := by
  unfold sSeq seq1
  cases F δ <;> rfl
theorem seq1_n (G : Fs) : seq1 G (.next δ) = G δ := rfl
theorem seq1_r (G : Fs) {c : Cell} : seq1 G (.ret c δ) = .ret c δ := rfl
theorem seq1_b (G : Fs) : seq1 G (.brk δ) = .brk δ := rfl
theorem seq1_c (G : Fs) : seq1 G (.cont δ) = .cont δ := rfl
theorem seq1_x (G : Fs) {x : Exn} : seq1 G (.err x δ) = .err x δ := rfl
theorem sNext_e : sNext δ = .next δ := rfl
def drop1 (_ : D) (δ : DEnv) : RS := .next δ
theorem sDrop_e (F : Fe D) : sDrop F δ = (F δ).bindS drop1 := rfl
theorem drop1_e : drop1 d δ = .next δ := rfl
def ret1 (d : D) (δ : DEnv) : RS := .ret (.val d) δ
def retO1 (d : D) (δ : DEnv) : RS := .ret (.own d) δ
theorem sRet_e (F : Fe D) : sRet F δ = (F δ).bindS ret1 := rfl
theorem sRetO_e (F : Fe D) : sRetO F δ = (F δ).bindS retO1 := rfl
theorem ret1_e : ret1 d δ = .ret (.val d) δ := rfl
theorem retO1_e : retO1 d δ = .ret (.own d) δ := rfl
theorem sRetN_e : sRetN δ = .ret (.val .none) δ := rfl
def retC (i : Nat) (δ : DEnv) : Option Cell → RS
  | some (.val d) => .ret (.val d) δ
  | some (.own d) => .ret (.own d) (δ.set i none)
  | _ => .bad
theorem sRetV_e (i : Nat) : sRetV i δ = retC i δ (slot δ i) := by
  rw [slot_eq]
  unfold sRetV
  cases h : δ[i]? with
  | none => rfl
  | some x => cases x with
    | none => rfl
    | some c => cases c <;> rfl
theorem retC_v {i : Nat} : retC i δ (some (.val d)) = .ret (.val d) δ := rfl
theorem retC_o {i : Nat} : retC i δ (some (.own d)) = .ret (.own d) (δ.set i none) := rfl
def nextO : Option DEnv → RS
  | some δ => .next δ
  | none => .bad
theorem nextO_e : nextO (some δ) = .next δ := rfl
def set1 (i : Nat) (d : D) (δ : DEnv) : RS := nextO (stor δ i (.val d))
def setO1 (i : Nat) (d : D) (δ : DEnv) : RS := nextO (stor δ i (.own d))
theorem sSet_e (i : Nat) (F : Fe D) : sSet i F δ = (F δ).bindS (set1 i) := by
  unfold sSet
  congr 1
  funext d δ1
  unfold set1
  rw [stor_e]
  split <;> rfl
theorem sSetO_e (i : Nat) (F : Fe D) : sSetO i F δ = (F δ).bindS (setO1 i) := by
  unfold sSetO
  congr 1
  funext d δ1
  unfold setO1
  rw [stor_e]
  split <;> rfl
theorem set1_e (i : Nat) : set1 i d δ = nextO (stor δ i (.val d)) := rfl
theorem setO1_e (i : Nat) : setO1 i d δ = nextO (stor δ i (.own d)) := rfl
theorem bName_e (i : Nat) : bName i d δ = stor δ i (.val d) := by
  rw [stor_e]
  rfl
theorem bNil_e : bNil [] δ = some δ := rfl
def bCons1 (C : Bds) (ds : List D) : Option DEnv → Option DEnv
  | some δ => C ds δ
  | none => none
theorem bCons_e (B : Bd) (C : Bds) (ds : List D) : bCons B C (d :: ds) δ = bCons1 C ds (B d δ) := by
  show (B d δ).bind (C ds) = _
  unfold bCons1
  cases B d δ <;> rfl
theorem bCons1_e (C : Bds) (ds : List D) : bCons1 C ds (some δ) = C ds δ := rfl
theorem bTup_e {n : Nat} {B : Bds} {ds : List D} (h : ds.length = n) : bTup n B (.tuple ds) δ = B ds δ := if_pos h
def asg1 (B : Bd) (d : D) (δ : DEnv) : RS := nextO (B d δ)
theorem sAsg_e (F : Fe D) (B : Bd) : sAsg F B δ = (F δ).bindS (asg1 B) := by
  show (F δ).bindS (fun d δ1 => match B d δ1 with
    | some δ2 => RS.next δ2
    | none => .bad) = _
  congr 1
theorem asg1_e (B : Bd) : asg1 B d δ = nextO (B d δ) := rfl
/-- two stores -/
def stor2 (i j : Nat) (a b : D) (δ : DEnv) : Option DEnv := storN j b (stor δ i (.val a))
where storN (j : Nat) (b : D) : Option DEnv → Option DEnv
  | some δ => stor δ j (.val b)
  | none => none
theorem storN_e {j : Nat} : stor2.storN j d (some δ) = stor δ j (.val d) := rfl
def par1 (i j : Nat) : List D → DEnv → RS
  | [a, b], δ => nextO (stor2.storN j b (stor δ i (.val a)))
  | _, _ => .bad
theorem par1_e {i j : Nat} {a b : D} : par1 i j [a, b] δ = nextO (stor2.storN j b (stor δ i (.val a))) := rfl
theorem free_set' {δ : DEnv} {i j : Nat} {d : D} (h : i ≠ j) : free (δ.set i (some (.val d))) j = free δ j := by
  unfold free
  rw [List.length_set, List.getElem?_set_ne h]
theorem sPar_e {i j : Nat} (h : i ≠ j) (F : Fe (List D)) : sPar i j F δ = (F δ).bindS (par1 i j) := by
  unfold sPar
  congr 1
  funext ds δ1
  match ds with
  | [] => rfl
  | [_] => rfl
  | _ :: _ :: _ :: _ => rfl
  | [a, b] =>
    show (if free δ1 i = true ∧ free δ1 j = true ∧ i ≠ j then RS.next ((δ1.set i (some (.val a))).set j (some (.val b))) else .bad) = nextO (stor2.storN j b (stor δ1 i (.val a)))
    rw [stor_e]
    by_cases h1 : free δ1 i = true
    · rw [if_pos h1]
      show _ = nextO (stor (δ1.set i (some (.val a))) j (.val b))
      rw [stor_e, free_set' h]
      by_cases h2 : free δ1 j = true
      · rw [if_pos ⟨h1, h2, h⟩, if_pos h2]
        rfl
      · rw [if_neg (fun z => h2 z.2.1), if_neg h2]
        rfl
    · rw [if_neg (fun z => h1 z.1), if_neg h1]
      rfl
def augN1 (i : Nat) (f : Int → Int → Int) (x : Int) (d : D) (δ : DEnv) : RS :=
  match d with
  | .int y => nextO (stor δ i (.val (.int (f x y))))
  | _ => .bad
def augN0 (i : Nat) (f : Int → Int → Int) (F : Fe D) (δ : DEnv) : Option D → RS
  | some (.int x) => (F δ).bindS (augN1 i f x)
  | _ => .bad
theorem sAugN_e (i : Nat) (f : Int → Int → Int) (F : Fe D) : sAugN i f F δ = augN0 i f F δ (cellD (slot δ i)) := by
  rw [← peek_e]
  unfold sAugN augN0
  cases peek δ i with
  | none => rfl
  | some x => cases x with
    | int x =>
      dsimp only
      congr 1
      funext d δ1
      unfold augN1
      cases d with
      | int y =>
        dsimp only
        rw [stor_e]
        split <;> rfl
      | _ => rfl
    | _ => rfl
theorem augN0_e (i : Nat) (f : Int → Int → Int) (F : Fe D) {x : Int} : augN0 i f F δ (some (.int x)) = (F δ).bindS (augN1 i f x) := rfl
theorem augN1_e (i : Nat) (f : Int → Int → Int) {x y : Int} : augN1 i f x (.int y) δ = nextO (stor δ i (.val (.int (f x y)))) := rfl
def sif1 (F G : Fs) (b : Bool) (δ : DEnv) : RS := if b = true then F δ else G δ
theorem sIf_e (T : Fe Bool) (F G : Fs) : sIf T F G δ = (T δ).bindS (sif1 F G) := rfl
theorem sif1_t (F G : Fs) : sif1 F G true δ = F δ := rfl
theorem sif1_f (F G : Fs) : sif1 F G false δ = G δ := rfl
def sfor1 (B : Bd) (F : Fs) (ds : List D) (δ : DEnv) : RS := sForL B F ds δ
theorem sFor_e (I : Fe (List D)) (B : Bd) (F : Fs) : sFor I B F δ = (I δ).bindS (sfor1 B F) := rfl
theorem sfor1_e (B : Bd) (F : Fs) (ds : List D) : sfor1 B F ds δ = sForL B F ds δ := rfl
theorem iAny_e (F : Fe D) : iAny F δ = (F δ).bind anyI := rfl
theorem anyI_l {ds : List D} : anyI (.list ds) δ = .ok ds δ := rfl
theorem anyI_t {ds : List D} : anyI (.tuple ds) δ = .ok ds δ := rfl
theorem anyI_s {z : Str} : anyI (.str z) δ = .ok (signsD z) δ := rfl
theorem iRng1_e (F : Fe D) : iRng1 F δ = (F δ).bind rng1 := rfl
theorem rng1_e {j : Int} (h1 : -(2 ^ 62) ≤ j) (h2 : j < 2 ^ 62) : rng1 (.int j) δ = .ok (rngL 0 j.toNat) δ := if_pos ⟨h1, h2⟩
/-! items and append, in place -/
theorem put_e {v : Nat} : putD v d δ = back1 δ v d := by
  rw [back1_e]
  rfl
def atN {α : Type} : List α → Nat → Option α
  | [], _ => none
  | x :: _, 0 => some x
  | _ :: l, n + 1 => atN l n
theorem atN_get {α : Type} : ∀ (l : List α) (n : Nat), atN l n = l[n]?
  | [], n => by simp [atN]
  | x :: l, 0 => by simp [atN]
  | x :: l, n + 1 => by simp [atN, atN_get l n]
theorem atN_0 {α : Type} {x : α} {l : List α} : atN (x :: l) 0 = some x := rfl
theorem atN_S {α : Type} {x : α} {l : List α} {n : Nat} : atN (x :: l) (n + 1) = atN l n := rfl
theorem ixN_nat {n k : Nat} : ixN n (k : Int) = if k < n then some k else none := by
  unfold ixN
  rw [if_pos (Int.natCast_nonneg k)]
  by_cases h : k < n
  · rw [if_pos (by omega), if_pos h]
    simp
  · rw [if_neg (by omega), if_neg h]
theorem atI_nat' {α : Type} (xs : List α) (k : Nat) : atI xs (k : Int) = atN xs k := by
  rw [atN_get]
  unfold atI
  rw [ixN_nat]
  by_cases h : k < xs.length
  · rw [if_pos h]
    rfl
  · rw [if_neg h, List.getElem?_eq_none (by omega)]
    rfl
theorem atI_0 {α : Type} (xs : List α) : atI xs 0 = atN xs 0 := atI_nat' xs 0
theorem atI_1 {α : Type} (xs : List α) : atI xs 1 = atN xs 1 := atI_nat' xs 1
theorem atI_2 {α : Type} (xs : List α) : atI xs 2 = atN xs 2 := atI_nat' xs 2
theorem atI_3 {α : Type} (xs : List α) : atI xs 3 = atN xs 3 := atI_nat' xs 3
theorem atI_4 {α : Type} (xs : List α) : atI xs 4 = atN xs 4 := atI_nat' xs 4
theorem atI_5 {α : Type} (xs : List α) : atI xs 5 = atN xs 5 := atI_nat' xs 5
theorem atI_6 {α : Type} (xs : List α) : atI xs 6 = atN xs 6 := atI_nat' xs 6
theorem atI_7 {α : Type} (xs : List α) : atI xs 7 = atN xs 7 := atI_nat' xs 7
theorem atI_8 {α : Type} (xs : List α) : atI xs 8 = atN xs 8 := atI_nat' xs 8
theorem atI_9 {α : Type} (xs : List α) : atI xs 9 = atN xs 9 := atI_nat' xs 9
theorem atI_10 {α : Type} (xs : List α) : atI xs 10 = atN xs 10 := atI_nat' xs 10
theorem atI_11 {α : Type} (xs : List α) : atI xs 11 = atN xs 11 := atI_nat' xs 11
theorem atI_12 {α : Type} (xs : List α) : atI xs 12 = atN xs 12 := atI_nat' xs 12
theorem atI_last {α : Type} (xs : List α) : atI xs (-1) = xs.getLast? := by
  cases xs with
  | nil => rfl
  | cons x l =>
    rw [List.getLast?_eq_getElem?]
    unfold atI ixN
    rw [if_neg (by omega), if_pos (by simp; omega)]
    show (x :: l)[((-1 : Int) + ((x :: l).length : Nat)).toNat]? = _
    congr 1
    simp
    omega
theorem atI_in {α : Type} (xs : List α) {i : Int} (h0 : 0 ≤ i) (h1 : i < xs.length) (d : α) : atI xs i = some (xs.getD i.toNat d) := by
  have e : i = (i.toNat : Nat) := by omega
  rw [e, atI_nat', atN_get, List.getElem?_eq_getElem (by omega), List.getD_eq_getElem?_getD, Int.toNat_natCast, List.getElem?_eq_getElem (by omega)]
  rfl
def lset {α : Type} : List α → Nat → α → Option (List α)
  | [], _, _ => none
  | _ :: l, 0, d => some (d :: l)
  | x :: l, n + 1, d => (lset l n d).map (x :: ·)
theorem lset_0 {α : Type} {x d : α} {l : List α} : lset (x :: l) 0 d = some (d :: l) := rfl
theorem lset_S {α : Type} {x d : α} {l : List α} {n : Nat} : lset (x :: l) (n + 1) d = (lset l n d).map (x :: ·) := rfl
theorem mapc {α : Type} {x : α} {l : List α} : (some l).map (x :: ·) = some (x :: l) := rfl
theorem lset_e {α : Type} : ∀ (l : List α) (n : Nat) (d : α), lset l n d = if n < l.length then some (l.set n d) else none
  | [], n, d => by simp [lset]
  | x :: l, 0, d => by simp [lset]
  | x :: l, n + 1, d => by
    simp only [lset, lset_e l n d, List.length_cons, Nat.add_lt_add_iff_right, List.set_cons_succ]
    split <;> rfl
def putN (v : Nat) (δ : DEnv) : Option (List D) → RS
  | some ds => .next (back1 δ v (.list ds))
  | none => .bad
theorem putN_e {v : Nat} {ds : List D} : putN v δ (some ds) = .next (back1 δ v (.list ds)) := rfl
def item4 (v : Nat) (d : D) (k : D) (δ : DEnv) (o : Option D) : RS :=
  match o with
  | some (.list ds) => (match k with
    | .int j => (match ixN ds.length j with
      | some jn => .next (putD v (.list (ds.set jn d)) δ)
      | none => .bad)
    | _ => .bad)
  | _ => .bad
def item3 (v : Nat) (d k : D) (δ : DEnv) : RS := item4 v d k δ (lendC (slot δ v))
def item2 (v : Nat) (d : D) (Fi : Fe D) (δ : DEnv) : Option D → RS
  | some _ => (Fi δ).bindS (item3 v d)
  | none => .bad
def item1 (v : Nat) (Fi : Fe D) (d : D) (δ : DEnv) : RS := item2 v d Fi δ (lendC (slot δ v))
theorem sItem_e (v : Nat) (Fi F : Fe D) : sItem v Fi F δ = (F δ).bindS (item1 v Fi) := by
  unfold sItem
  congr 1
  funext d δ1
  unfold item1
  rw [← lend_e]
  unfold item2
  cases lendable δ1 v with
  | none => rfl
  | some c =>
    refine (if_pos rfl).trans ?_
    dsimp only
    congr 1
    funext k δ2
    unfold item3 item4 onList
    rw [lend_e]
    all_goals
      cases lendC (slot δ2 v) with
      | none => rfl
      | some q => cases q <;> rfl
theorem item1_e (v : Nat) (Fi : Fe D) : item1 v Fi d δ = item2 v d Fi δ (lendC (slot δ v)) := rfl
theorem item2_e (v : Nat) (Fi : Fe D) : item2 v d Fi δ (some d1) = (Fi δ).bindS (item3 v d) := rfl
theorem item3_e (v : Nat) {k : D} : item3 v d k δ = item4 v d k δ (lendC (slot δ v)) := rfl
theorem item4_e (v : Nat) {ds : List D} {n : Nat} : item4 v d (.int (n : Int)) δ (some (.list ds)) = putN v δ (lset ds n d) := by
  show (match ixN ds.length ((n : Nat) : Int) with
      | some jn => RS.next (putD v (.list (ds.set jn d)) δ)
      | none => .bad) = _
  rw [ixN_nat, lset_e]
  by_cases h : n < ds.length
  · rw [if_pos h, if_pos h]
    show RS.next (putD v _ δ) = _
    rw [put_e]
    rfl
  · rw [if_neg h, if_neg h]
    rfl
theorem item4_0 (v : Nat) {ds : List D} : item4 v d (.int 0) δ (some (.list ds)) = putN v δ (lset ds 0 d) := item4_e v (n := 0)
theorem item4_1 (v : Nat) {ds : List D} : item4 v d (.int 1) δ (some (.list ds)) = putN v δ (lset ds 1 d) := item4_e v (n := 1)
theorem item4_2 (v : Nat) {ds : List D} : item4 v d (.int 2) δ (some (.list ds)) = putN v δ (lset ds 2 d) := item4_e v (n := 2)
theorem item4_3 (v : Nat) {ds : List D} : item4 v d (.int 3) δ (some (.list ds)) = putN v δ (lset ds 3 d) := item4_e v (n := 3)
theorem item4_4 (v : Nat) {ds : List D} : item4 v d (.int 4) δ (some (.list ds)) = putN v δ (lset ds 4 d) := item4_e v (n := 4)
theorem item4_5 (v : Nat) {ds : List D} : item4 v d (.int 5) δ (some (.list ds)) = putN v δ (lset ds 5 d) := item4_e v (n := 5)
theorem item4_6 (v : Nat) {ds : List D} : item4 v d (.int 6) δ (some (.list ds)) = putN v δ (lset ds 6 d) := item4_e v (n := 6)
theorem item4_7 (v : Nat) {ds : List D} : item4 v d (.int 7) δ (some (.list ds)) = putN v δ (lset ds 7 d) := item4_e v (n := 7)
theorem item4_8 (v : Nat) {ds : List D} : item4 v d (.int 8) δ (some (.list ds)) = putN v δ (lset ds 8 d) := item4_e v (n := 8)
theorem item4_9 (v : Nat) {ds : List D} : item4 v d (.int 9) δ (some (.list ds)) = putN v δ (lset ds 9 d) := item4_e v (n := 9)
def augI3 (v : Nat) (f : Int → Int → Int) (j : Int) (n : Nat) (old : Int) (d : D) (δ : DEnv) : Option D → RS
  | some (.list ds2) => (match d with
    | .int y => if ds2.length = n then .next (putD v (.list (ds2.set j.toNat (.int (f old y)))) δ) else .bad
    | _ => .bad)
  | _ => .bad
def augI2 (v : Nat) (f : Int → Int → Int) (j : Int) (n : Nat) (old : Int) (d : D) (δ : DEnv) : RS := augI3 v f j n old d δ (lendC (slot δ v))
def augI1 (v : Nat) (f : Int → Int → Int) (F : Fe D) (δ : DEnv) (j : Int) (n : Nat) : Option D → RS
  | some (.int old) => (F δ).bindS (augI2 v f j n old)
  | _ => .bad
def augI0 (v : Nat) (f : Int → Int → Int) (F : Fe D) (k : D) (δ : DEnv) : Option D → RS
  | some (.list ds) => (match k with
    | .int j => if 0 ≤ j then augI1 v f F δ j ds.length ds[j.toNat]? else .bad
    | _ => .bad)
  | _ => .bad
def augIk (v : Nat) (f : Int → Int → Int) (F : Fe D) (k : D) (δ : DEnv) : RS := augI0 v f F k δ (lendC (slot δ v))
def augIs (v : Nat) (f : Int → Int → Int) (Fi F : Fe D) (δ : DEnv) : Option D → RS
  | some _ => (Fi δ).bindS (augIk v f F)
  | none => .bad
theorem sAugI_e (v : Nat) (f : Int → Int → Int) (Fi F : Fe D) : sAugI v f Fi F δ = augIs v f Fi F δ (lendC (slot δ v)) := by
  rw [← lend_e]
  unfold sAugI augIs
  cases lendable δ v with
  | none => rfl
  | some c =>
    refine (if_pos rfl).trans ?_
    dsimp only
    congr 1
    funext k δ1
    unfold augIk
    rw [← lend_e]
    unfold onList augI0
    cases lendable δ1 v with
    | none => rfl
    | some e => cases e with
      | list ds =>
        dsimp only
        cases k with
        | int j =>
          dsimp only
          split
          · unfold augI1
            cases ds[j.toNat]? with
            | none => rfl
            | some o => cases o with
              | int old =>
                dsimp only
                congr 1
                funext d δ2
                unfold augI2
                rw [← lend_e]
                unfold augI3
                cases lendable δ2 v with
                | none => rfl
                | some q => cases q <;> rfl
              | _ => rfl
          · rfl
        | _ => rfl
      | _ => rfl
theorem augIs_e (v : Nat) (f : Int → Int → Int) (Fi F : Fe D) : augIs v f Fi F δ (some d) = (Fi δ).bindS (augIk v f F) := rfl
theorem augIk_e (v : Nat) (f : Int → Int → Int) (F : Fe D) {k : D} : augIk v f F k δ = augI0 v f F k δ (lendC (slot δ v)) := rfl
theorem augI0_e (v : Nat) (f : Int → Int → Int) (F : Fe D) {ds : List D} {n : Nat} : augI0 v f F (.int (n : Int)) δ (some (.list ds)) = augI1 v f F δ n ds.length (atN ds n) := by
  rw [atN_get]
  show (if 0 ≤ ((n : Nat) : Int) then augI1 v f F δ n ds.length ds[((n : Nat) : Int).toNat]? else .bad) = _
  rw [if_pos (Int.natCast_nonneg n)]
  rfl
theorem augI0_0 (v : Nat) (f : Int → Int → Int) (F : Fe D) {ds : List D} : augI0 v f F (.int 0) δ (some (.list ds)) = augI1 v f F δ ((0 : Nat) : Int) ds.length (atN ds 0) := augI0_e v f F (n := 0)
theorem augI0_1 (v : Nat) (f : Int → Int → Int) (F : Fe D) {ds : List D} : augI0 v f F (.int 1) δ (some (.list ds)) = augI1 v f F δ ((1 : Nat) : Int) ds.length (atN ds 1) := augI0_e v f F (n := 1)
theorem augI0_2 (v : Nat) (f : Int → Int → Int) (F : Fe D) {ds : List D} : augI0 v f F (.int 2) δ (some (.list ds)) = augI1 v f F δ ((2 : Nat) : Int) ds.length (atN ds 2) := augI0_e v f F (n := 2)
theorem augI0_3 (v : Nat) (f : Int → Int → Int) (F : Fe D) {ds : List D} : augI0 v f F (.int 3) δ (some (.list ds)) = augI1 v f F δ ((3 : Nat) : Int) ds.length (atN ds 3) := augI0_e v f F (n := 3)
theorem augI0_4 (v : Nat) (f : Int → Int → Int) (F : Fe D) {ds : List D} : augI0 v f F (.int 4) δ (some (.list ds)) = augI1 v f F δ ((4 : Nat) : Int) ds.length (atN ds 4) := augI0_e v f F (n := 4)
theorem augI0_5 (v : Nat) (f : Int → Int → Int) (F : Fe D) {ds : List D} : augI0 v f F (.int 5) δ (some (.list ds)) = augI1 v f F δ ((5 : Nat) : Int) ds.length (atN ds 5) := augI0_e v f F (n := 5)
theorem augI1_e (v : Nat) (f : Int → Int → Int) (F : Fe D) {j : Int} {n : Nat} {old : Int} : augI1 v f F δ j n (some (.int old)) = (F δ).bindS (augI2 v f j n old) := rfl
theorem augI2_e (v : Nat) (f : Int → Int → Int) {j : Int} {n : Nat} {old : Int} : augI2 v f j n old d δ = augI3 v f j n old d δ (lendC (slot δ v)) := rfl
theorem augI3_e (v : Nat) (f : Int → Int → Int) {j n : Nat} {old y : Int} {ds : List D} (h : ds.length = n) : augI3 v f (j : Int) n old (.int y) δ (some (.list ds)) = .next (back1 δ v (.list (ds.set j (.int (f old y))))) := by
  show (if ds.length = n then RS.next (putD v (.list (ds.set ((j : Nat) : Int).toNat (.int (f old y)))) δ) else .bad) = _
  rw [if_pos h, put_e]
  rfl
def app2 (v : Nat) (d : D) (δ : DEnv) : Option D → RS
  | some (.list ds) => if ds.length < 1000000 then .next (putD v (.list (ds ++ [d])) δ) else .bad
  | _ => .bad
def app1 (v : Nat) (d : D) (δ : DEnv) : RS := app2 v d δ (lendC (slot δ v))
def app0 (v : Nat) (F : Fe D) (δ : DEnv) : Option D → RS
  | some (.list _) => (F δ).bindS (app1 v)
  | _ => .bad
theorem sApp_e (v : Nat) (F : Fe D) : sApp v F δ = app0 v F δ (lendC (slot δ v)) := by
  rw [← lend_e]
  unfold sApp app0 isLst
  cases lendable δ v with
  | none => rfl
  | some c => cases c with
    | list ds =>
      refine (if_pos rfl).trans ?_
      dsimp only
      congr 1
      funext d δ1
      unfold app1
      rw [← lend_e]
      unfold app2 onList
      cases lendable δ1 v with
      | none => rfl
      | some q => cases q <;> rfl
    | _ => rfl
theorem app0_e (v : Nat) (F : Fe D) {ds : List D} : app0 v F δ (some (.list ds)) = (F δ).bindS (app1 v) := rfl
theorem app1_e (v : Nat) : app1 v d δ = app2 v d δ (lendC (slot δ v)) := rfl
theorem app2_e (v : Nat) {ds : List D} (h : ds.length < 1000000) : app2 v d δ (some (.list ds)) = .next (back1 δ v (.list (ds ++ [d]))) := by
  show (if ds.length < 1000000 then RS.next (putD v (.list (ds ++ [d])) δ) else .bad) = _
  rw [if_pos h, put_e]

/-! ### defs -/
theorem mir_e {np n : Nat} {F : Fs} {cells : List Cell} (h : cells.length = np) : mir np n F cells = runBody n F cells := if_pos h
def fin (cells : List Cell) : RS → RF
  | .ret c δ => .ok c (outs cells δ)
  | .next δ => .ok (.val .none) (outs cells δ)
  | .err x δ => .err x (outs cells δ)
  | _ => .bad
theorem runBody_e {n : Nat} {F : Fs} {cells : List Cell} : runBody n F cells = fin cells (F (cells.map some ++ List.replicate (n - cells.length) none)) := by
  unfold runBody fin
  cases F (cells.map some ++ List.replicate (n - cells.length) none) <;> rfl
theorem fin_r {cells : List Cell} {c : Cell} : fin cells (.ret c δ) = .ok c (outs cells δ) := rfl
theorem fin_n {cells : List Cell} : fin cells (.next δ) = .ok (.val .none) (outs cells δ) := rfl
theorem outs_n : outs [] δ = [] := by cases δ <;> rfl
theorem outs_v {cs : List Cell} {x : Option Cell} : outs (.val d :: cs) (x :: δ) = none :: outs cs δ := rfl
theorem outs_r {cs : List Cell} {x : Option Cell} : outs (.ref d :: cs) (x :: δ) = x :: outs cs δ := rfl

/-! ### loops -/
/-- every turn goes on -/
theorem forL_inv {B : Bd} {F : Fs} (P : DEnv → Prop) : ∀ (ds : List D) (δ : DEnv), P δ →
    (∀ d ∈ ds, ∀ δ, P δ → ∃ δ1, B d δ = some δ1 ∧ ∃ δ2, (F δ1 = .next δ2 ∨ F δ1 = .cont δ2) ∧ P δ2) → ∃ δ', sForL B F ds δ = .next δ' ∧ P δ'
  | [], δ, h, _ => ⟨δ, rfl, h⟩
  | d :: ds, δ, h, st => by
    obtain ⟨δ1, e1, δ2, e2, h2⟩ := st d List.mem_cons_self δ h
    obtain ⟨δ', e, h'⟩ := forL_inv P ds δ2 h2 fun x m => st x (List.mem_cons_of_mem _ m)
    refine ⟨δ', ?_, h'⟩
    unfold sForL
    rw [e1]
    dsimp only
    rcases e2 with e2 | e2 <;> rw [e2] <;> exact e
/-- .. with what is counted -/
theorem forL_at {B : Bd} {F : Fs} (P : Nat → DEnv → Prop) (ds : List D) (δ : DEnv) (h : P 0 δ)
    (st : ∀ i d, ds[i]? = some d → ∀ δ, P i δ → ∃ δ1, B d δ = some δ1 ∧ ∃ δ2, (F δ1 = .next δ2 ∨ F δ1 = .cont δ2) ∧ P (i + 1) δ2) : ∃ δ', sForL B F ds δ = .next δ' ∧ P ds.length δ' := by
  have go : ∀ (r : List D) (i : Nat) (δ : DEnv), P i δ → (∀ k d, r[k]? = some d → ∀ δ, P (i + k) δ → ∃ δ1, B d δ = some δ1 ∧ ∃ δ2, (F δ1 = .next δ2 ∨ F δ1 = .cont δ2) ∧ P (i + k + 1) δ2) → ∃ δ', sForL B F r δ = .next δ' ∧ P (i + r.length) δ' := by
    intro r
    induction r with
    | nil => exact fun i δ h _ => ⟨δ, rfl, h⟩
    | cons d r ih =>
      intro i δ h st
      obtain ⟨δ1, e1, δ2, e2, h2⟩ := st 0 d rfl δ h
      obtain ⟨δ', e, h'⟩ := ih (i + 1) δ2 h2 fun k x m δ hp => by
        have q := st (k + 1) x (by simpa using m) δ (by rw [show i + (k + 1) = i + 1 + k by omega]; exact hp)
        rwa [show i + (k + 1) + 1 = i + 1 + k + 1 by omega] at q
      refine ⟨δ', ?_, by rw [List.length_cons, show i + (r.length + 1) = i + 1 + r.length by omega]; exact h'⟩
      unfold sForL
      rw [e1]
      dsimp only
      rcases e2 with e2 | e2 <;> rw [e2] <;> exact e
  obtain ⟨δ', e, h'⟩ := go ds 0 δ h fun k d m δ hp => by
    have q := st k d m δ (by simpa using hp)
    simpa using q
  exact ⟨δ', e, by simpa using h'⟩
/-- one turn -/
theorem forL_nil {B : Bd} {F : Fs} : sForL B F [] δ = .next δ := rfl
def for2 (B : Bd) (F : Fs) (ds : List D) : RS → RS
  | .next δ2 => sForL B F ds δ2
  | .cont δ2 => sForL B F ds δ2
  | .brk δ2 => .next δ2
  | r => r
def for1 (B : Bd) (F : Fs) (ds : List D) : Option DEnv → RS
  | some δ1 => for2 B F ds (F δ1)
  | none => .bad
theorem forL_cons {B : Bd} {F : Fs} {ds : List D} : sForL B F (d :: ds) δ = for1 B F ds (B d δ) := by
  unfold for1
  show (match B d δ with
    | none => RS.bad
    | some δ1 => match F δ1 with
      | .next δ2 => sForL B F ds δ2
      | .cont δ2 => sForL B F ds δ2
      | .brk δ2 => .next δ2
      | r => r) = _
  cases B d δ with
  | none => rfl
  | some δ1 =>
    dsimp only
    unfold for2
    cases F δ1 <;> rfl
theorem for1_e {B : Bd} {F : Fs} {ds : List D} : for1 B F ds (some δ) = for2 B F ds (F δ) := rfl
theorem for2_n {B : Bd} {F : Fs} {ds : List D} : for2 B F ds (.next δ) = sForL B F ds δ := rfl
theorem for2_c {B : Bd} {F : Fs} {ds : List D} : for2 B F ds (.cont δ) = sForL B F ds δ := rfl
theorem for2_b {B : Bd} {F : Fs} {ds : List D} : for2 B F ds (.brk δ) = .next δ := rfl
theorem for2_r {B : Bd} {F : Fs} {ds : List D} {c : Cell} : for2 B F ds (.ret c δ) = .ret c δ := rfl

/-! ### comprehensions -/
/-- one own slot; what is made of each item, the frame as P says -/
theorem comp_inv {i : Nat} {I : Fe (List D)} {E : Fe D} {δ1 : DEnv} {ds : List D} (P : DEnv → Prop) (G : D → Prop) (hI : I δ = .ok ds δ1) (hs : soft (slot δ1 i) = true) (hi : i < δ1.length) (hn : ds.length ≤ 1000000)
    (h0 : P (δ1.set i none)) (hl : ∀ δ, P δ → δ.length = δ1.length ∧ soft (slot δ i) = true)
    (h : ∀ d ∈ ds, ∀ δ, P δ → ∃ y δ3, E (δ.set i (some (.val d))) = .ok y δ3 ∧ G y ∧ P (δ3.set i none)) :
    calmAt δ1 [i] = true → ∃ acc δ2, fComp [i] I (bName i) fYes E δ = .ok (.list acc) (δ2.set i (slot δ1 i)) ∧ acc.length = ds.length ∧ (∀ y ∈ acc, G y) ∧ P δ2 := by
  intro hc
  have run : ∀ (r : List D) (acc : List D) (δ : DEnv), (∀ d ∈ r, d ∈ ds) → P δ → (∀ y ∈ acc, G y) → ∃ acc2 δ2, compL [i] (bName i) fYes E r acc δ = .ok acc2 δ2 ∧ acc2.length = acc.length + r.length ∧ (∀ y ∈ acc2, G y) ∧ P δ2 := by
    intro r
    induction r with
    | nil => exact fun acc δ _ hp ha => ⟨acc, δ, rfl, rfl, ha, hp⟩
    | cons d r ih =>
      intro acc δ hm hp ha
      obtain ⟨e1, e2⟩ := hl δ hp
      obtain ⟨y, δ3, ey, gy, p3⟩ := h d (hm d List.mem_cons_self) δ hp
      obtain ⟨acc2, δ2, er, ln, ga, p2⟩ := ih (acc ++ [y]) (δ3.set i none) (fun x m => hm x (List.mem_cons_of_mem _ m)) p3 fun z m => by
        rcases List.mem_append.mp m with m | m
        · exact ha z m
        · rw [List.mem_singleton.mp m]
          exact gy
      refine ⟨acc2, δ2, ?_, by rw [ln]; simp; omega, ga, p2⟩
      have fr : free δ i = true := by
        unfold free
        have : isRef δ[i]? = false := by
          rw [slot_eq] at e2
          cases q : δ[i]? with
          | none => rfl
          | some x => cases x with
            | none => rfl
            | some c =>
              rw [q] at e2
              cases c with
              | ref _ => cases e2
              | _ => rfl
        rw [this, e1]
        simp [hi]
      unfold compL
      have eb : bName i d δ = some (δ.set i (some (.val d))) := if_pos fr
      rw [eb]
      dsimp only [fYes]
      rw [ey]
      exact er
  obtain ⟨acc, δ2, er, ln, ga, p2⟩ := run ds [] (δ1.set i none) (fun _ m => m) h0 (fun _ m => by cases m)
  refine ⟨acc, δ2, ?_, by simpa using ln, ga, p2⟩
  have sl : δ1[i]? = some (slot δ1 i) := by
    rw [slot_eq, List.getElem?_eq_getElem hi]
    rfl
  unfold fComp
  rw [hI, bind_ok, if_pos ⟨hc, hn⟩]
  show (match compL [i] (bName i) fYes E ds [] (δ1.set i none) with
    | .ok acc δ2 => if δ2.length = δ1.length then R.ok (PyData.list acc) (back δ1 [i] δ2) else .bad
    | _ => .bad) = _
  rw [er]
  dsimp only
  rw [if_pos (hl δ2 p2).1]
  unfold back
  rw [sl]
  rfl
/-- .. where nothing is changed -/
theorem comp_map {i : Nat} {I : Fe (List D)} {T : Fe Bool} {E : Fe D} {δ1 : DEnv} {ds : List D} (t : D → Bool) (f : D → D) (hI : I δ = .ok ds δ1) (hi : i < δ1.length) (hc : calmAt δ1 [i] = true) (hn : ds.length ≤ 1000000)
    (h : ∀ d ∈ ds, T (δ1.set i (some (.val d))) = .ok (t d) (δ1.set i (some (.val d))) ∧ (t d = true → E (δ1.set i (some (.val d))) = .ok (f d) (δ1.set i (some (.val d))))) :
    fComp [i] I (bName i) T E δ = .ok (.list ((ds.filter t).map f)) δ1 := by
  have s2 : ∀ (x : Option Cell) (y : Option Cell), (δ1.set i x).set i y = δ1.set i y := fun x y => by simp
  have fr : free (δ1.set i none) i = true := by
    unfold free
    simp [hi, isRef]
  have eb : ∀ d, bName i d (δ1.set i none) = some (δ1.set i (some (.val d))) := fun d => by
    have e : bName i d (δ1.set i none) = some ((δ1.set i none).set i (some (.val d))) := if_pos fr
    rw [e, s2]
  have run : ∀ (r acc : List D), (∀ d ∈ r, d ∈ ds) → compL [i] (bName i) T E r acc (δ1.set i none) = .ok (acc ++ (r.filter t).map f) (δ1.set i none) := by
    intro r
    induction r with
    | nil =>
      intro acc _
      simp [compL]
    | cons d r ih =>
      intro acc hm
      obtain ⟨h1, h2⟩ := h d (hm d List.mem_cons_self)
      have ih' := fun acc => ih acc fun x m => hm x (List.mem_cons_of_mem _ m)
      unfold compL
      rw [eb]
      dsimp only
      rw [h1]
      cases ht : t d with
      | false =>
        dsimp only
        have w : wipeE (δ1.set i (some (.val d))) [i] = δ1.set i none := s2 _ _
        rw [w, ih', List.filter_cons_of_neg (by simp [ht])]
      | true =>
        dsimp only
        rw [h2 ht]
        have w : wipeE (δ1.set i (some (.val d))) [i] = δ1.set i none := s2 _ _
        dsimp only
        rw [w, ih', List.filter_cons_of_pos ht]
        simp
  have sl : δ1[i]? = some (slot δ1 i) := by
    rw [slot_eq, List.getElem?_eq_getElem hi]
    rfl
  unfold fComp
  rw [hI, bind_ok, if_pos ⟨hc, hn⟩]
  show (match compL [i] (bName i) T E ds [] (δ1.set i none) with
    | .ok acc δ2 => if δ2.length = δ1.length then R.ok (PyData.list acc) (back δ1 [i] δ2) else .bad
    | _ => .bad) = _
  rw [run ds [] fun _ m => m]
  dsimp only
  rw [if_pos (by simp)]
  unfold back
  rw [sl]
  dsimp only [back]
  rw [s2]
  have : δ1.set i (slot δ1 i) = δ1 := by
    rw [slot_eq, List.getElem?_eq_getElem hi]
    simp
  rw [this]
  simp
end
end Dl

set_option Elab.async false
set_option linter.all false
set_option maxRecDepth 100000
/-! Dl15: operations on data; the law's bag. -/
namespace Dl
open PySem PySem.Spec PyProof.Rows L2
section
variable {a b : Int} {x y : Str} {p q : Bool} {xs ys : List D} {d e : D}
theorem addF_i : addF (.int a) (.int b) = some (.int (a + b)) := rfl
theorem addF_s (h : x.length + y.length ≤ 1000000) : addF (.str x) (.str y) = some (.str (x ++ y)) := if_pos h
theorem addF_l (h : xs.length + ys.length ≤ 1000000) : addF (.list xs) (.list ys) = some (.list (xs ++ ys)) := if_pos h
theorem addF_t (h : xs.length + ys.length ≤ 1000000) : addF (.tuple xs) (.tuple ys) = some (.tuple (xs ++ ys)) := if_pos h
theorem subF_i : subF (.int a) (.int b) = some (.int (a - b)) := rfl
theorem mulF_l (h : -(2 ^ 64) < a ∧ a < 2 ^ 64) : mulF (.int a) (.int b) = some (.int (a * b)) := if_pos (.inl (.inl h))
theorem mulF_r (h : -(2 ^ 64) < b ∧ b < 2 ^ 64) : mulF (.int a) (.int b) = some (.int (a * b)) := if_pos (.inl (.inr h))
theorem log_lt {n k : Nat} (h : n < 2 ^ k) (hk : 0 < k) : n.log2 < k := by
  by_cases z : n = 0
  · subst z
    simpa using hk
  · exact (Nat.log2_lt z).mpr h
theorem divF_i (h : 0 < b) (h2 : b < 2 ^ 64) : divF (.int a) (.int b) = some (.int (a / b)) := if_pos ⟨h, Nat.lt_trans (log_lt (k := 64) (by omega) (by omega)) (by omega)⟩
theorem modF_i (h : 0 < b) : modF (.int a) (.int b) = some (.int (a % b)) := if_pos h
theorem eqF_i : eqF (.int a) (.int b) = some (.bool (decide (a = b))) := rfl
theorem eqF_s : eqF (.str x) (.str y) = some (.bool (decide (x = y))) := rfl
theorem eqF_b : eqF (.bool p) (.bool q) = some (.bool (p == q)) := rfl
theorem neF_i : neF (.int a) (.int b) = some (.bool (!decide (a = b))) := rfl
theorem neF_s : neF (.str x) (.str y) = some (.bool (!decide (x = y))) := rfl
theorem ltF_i : ltF (.int a) (.int b) = some (.bool (decide (a < b))) := by
  show some (PyData.bool (PySem.W.dataLt (.int a) (.int b))) = _
  rw [PySem.W.dataLt_int]
theorem gtF_i : gtF (.int a) (.int b) = some (.bool (decide (b < a))) := by
  show some (PyData.bool (PySem.W.dataLt (.int b) (.int a))) = _
  rw [PySem.W.dataLt_int]
theorem leF_i : leF (.int a) (.int b) = some (.bool (decide (a ≤ b))) := by
  show some (PyData.bool (!PySem.W.dataLt (.int b) (.int a))) = _
  rw [PySem.W.dataLt_int]
  congr 2
  by_cases h : b < a
  · rw [decide_eq_true h, decide_eq_false (by omega)]
    rfl
  · rw [decide_eq_false h, decide_eq_true (by omega)]
    rfl
theorem geF_i : geF (.int a) (.int b) = some (.bool (decide (b ≤ a))) := leF_i (a := b) (b := a)
theorem isF_n : isF d .none = some (.bool (isNoneD d)) := rfl
theorem isnF_n : isnF d .none = some (.bool (!isNoneD d)) := rfl
theorem itF_l : itF (.list xs) (.int a) = atI xs a := rfl
theorem itF_t : itF (.tuple xs) (.int a) = atI xs a := rfl
theorem itF_s (h : x.length ≤ 1000000) : itF (.str x) (.int a) = (atI x.cps.toList a).map fun c => .str ⟨#[c]⟩ := if_pos h
theorem lenF_l : lenF [.list xs] = some (.int xs.length) := rfl
theorem lenF_t : lenF [.tuple xs] = some (.int xs.length) := rfl
theorem lenF_s (h : x.length ≤ 1000000) : lenF [.str x] = some (.int x.length) := if_pos h
theorem absF_i : absF [.int a] = some (.int (if a < 0 then -a else a)) := rfl
theorem intF_i : intF [.int a] = some (.int a) := rfl
theorem intF_b : intF [.bool p] = some (.int (if p then 1 else 0)) := rfl
theorem negF_i : negF (.int a) = some (.int (-a)) := rfl
theorem revF_l : revF (.list xs) = some (.list xs.reverse) := rfl
@[irreducible] def mx (a b : Int) : Int := if b > a then b else a
@[irreducible] def mn (a b : Int) : Int := if b < a then b else a
theorem mx_b (a b : Int) : a ≤ mx a b ∧ b ≤ mx a b ∧ (mx a b = a ∨ mx a b = b) := by
  unfold mx
  split <;> omega
theorem mn_b (a b : Int) : mn a b ≤ a ∧ mn a b ≤ b ∧ (mn a b = a ∨ mn a b = b) := by
  unfold mn
  split <;> omega
theorem maxF_i : maxF [.int a, .int b] = some (.int (mx a b)) := by
  unfold mx
  rfl
theorem minF_i : minF [.int a, .int b] = some (.int (mn a b)) := by
  unfold mn
  rfl
theorem listF_l : listF [.list xs] = some (.list xs) := rfl
theorem listF_t : listF [.tuple xs] = some (.list xs) := rfl
theorem sliceF_l {l u : Option Int} : sliceF (.list xs) l u = some (.list (cutD xs l u)) := rfl
theorem sliceF_t {l u : Option Int} : sliceF (.tuple xs) l u = some (.tuple (cutD xs l u)) := rfl
theorem sliceF_s {l u : Option Int} (h : x.length ≤ 1000000) : sliceF (.str x) l u = some (.str (cutS x l u)) := if_pos h
theorem joinM_l {ws : List Str} (h : strsOf xs = some ws) (hl : (ws.map (·.length)).sum + ws.length * x.length ≤ 1000000) : joinM (.str x) [.list xs] = some (.str (Txt.join x ws)) := by
  show (strsOf xs).bind _ = _
  rw [h]
  exact if_pos hl
theorem splitM_s (h : (y.length == 0) = false) (hl : x.length ≤ 1000000) : splitM (.str x) [.str y] = some (.list ((Txt.split x y).map .str)) := if_pos ⟨h, hl⟩

/-! ### the bag -/
/-- what is left of a great number, the running number, the place, the cells -/
structure Bg where
  rest : Int
  run : Int
  at_ : Nat
  cells : List Int
def bagD (b : Bg) : D := .list [.int b.rest, .int b.run, .int (b.at_ : Int), .list (b.cells.map .int)]
/-- the next cell is drawn, where nothing is left -/
def Bg.cell (b : Bg) : Int := if b.at_ < b.cells.length then b.cells.getD b.at_ 0 else 0
def Bg.fresh (b : Bg) : Bg :=
  if b.rest = 0 then
    { rest := if 1000000000000000000 ≤ b.cell then b.cell else b.rest, run := (b.run * 48271 + b.cell % 2147483647 + 7919 * ((b.at_ : Int) + 1)) % 2147483647, at_ := b.at_ + 1, cells := b.cells }
  else b
@[irreducible] def takeV (b : Bg) (m : Int) : Int :=
  if 0 < b.fresh.rest then b.fresh.rest % m else
    let f := (b.fresh.run + 1) * 39373 % 1000000007
    let s := f * f % 998244353 * 30011 % 998244353
    if 1000000 < m then (s * 1000000007 + f) % m else s / 7 % m
@[irreducible] def takeB (b : Bg) (m : Int) : Bg := if 0 < b.fresh.rest then { b.fresh with rest := b.fresh.rest / m } else b.fresh
theorem takeV_nn {b : Bg} {m : Int} (h : 0 < m) : 0 ≤ takeV b m := by
  unfold takeV
  split
  · exact Int.emod_nonneg _ (by omega)
  · dsimp only
    split
    · exact Int.emod_nonneg _ (by omega)
    · exact Int.emod_nonneg _ (by omega)
theorem takeV_lt {b : Bg} {m : Int} (h : 0 < m) : takeV b m < m := by
  unfold takeV
  split
  · exact Int.emod_lt_of_pos _ h
  · dsimp only
    split
    · exact Int.emod_lt_of_pos _ h
    · exact Int.emod_lt_of_pos _ h
end
end Dl

set_option Elab.async false
set_option linter.all false
set_option maxRecDepth 100000
set_option maxHeartbeats 0
namespace Dl
open PySem PySem.Spec PyProof.Rows L2
namespace Bag
/-! take: 0 bag 1 many 2 cell 3 value 4 first 5 second -/
def F_1 : Fs := (sIf (fB (fBin eqF (fOf (fBin itF (pkVar 0) (fOf (fC (.int 0))))) (fOf (fC (.int 0))))) (sSeq (sSet 2 (fC (.int 0)))
  (sSeq (sIf (fB (fBin ltF (fOf (fBin itF (pkVar 0) (fOf (fC (.int 2))))) (fOf (fCall lenF (lCons (fOf (fBin itF (pkVar 0) (fOf (fC (.int 3))))) lNil))))) (sSet 2 (fBin itF (fOf (fBin itF (pkVar 0) (fOf (fC (.int 3))))) (fOf (fBin itF (pkVar 0) (fOf (fC (.int 2))))))) sNext)
  (sSeq (sAugI 0 (fun a b => a + b) (fC (.int 2)) (fC (.int 1)))
  (sSeq (sIf (fB (fBin geF (pkVar 2) (fOf (fC (.int 1000000000000000000))))) (sItem 0 (fC (.int 0)) (rdVar 2)) sNext)
  (sItem 0 (fC (.int 1)) (fBin modF (fOf (fBin addF (fOf (fBin addF (fOf (fBin mulF (fOf (fBin itF (pkVar 0) (fOf (fC (.int 1))))) (fOf (fC (.int 48271))))) (fOf (fBin modF (pkVar 2) (fOf (fC (.int 2147483647))))))) (fOf (fBin mulF (fOf (fC (.int 7919))) (fOf (fBin itF (pkVar 0) (fOf (fC (.int 2))))))))) (fOf (fC (.int 2147483647))))))))) sNext)
def F_2 : Fs := (sSeq (sIf (fB (fBin gtF (fOf (fBin itF (pkVar 0) (fOf (fC (.int 0))))) (fOf (fC (.int 0))))) (sSeq (sSet 3 (fBin modF (fOf (fBin itF (pkVar 0) (fOf (fC (.int 0))))) (pkVar 1)))
  (sSeq (sItem 0 (fC (.int 0)) (fBin divF (fOf (fBin itF (pkVar 0) (fOf (fC (.int 0))))) (pkVar 1)))
  (sRetV 3))) sNext)
  (sSeq (sSet 4 (fBin modF (fOf (fBin mulF (fOf (fBin addF (fOf (fBin itF (pkVar 0) (fOf (fC (.int 1))))) (fOf (fC (.int 1))))) (fOf (fC (.int 39373))))) (fOf (fC (.int 1000000007)))))
  (sSeq (sSet 5 (fBin modF (fOf (fBin mulF (fOf (fBin modF (fOf (fBin mulF (pkVar 4) (pkVar 4))) (fOf (fC (.int 998244353))))) (fOf (fC (.int 30011))))) (fOf (fC (.int 998244353)))))
  (sSeq (sIf (fB (fBin gtF (pkVar 1) (fOf (fC (.int 1000000))))) (sRet (fBin modF (fOf (fBin addF (fOf (fBin mulF (pkVar 5) (fOf (fC (.int 1000000007))))) (pkVar 4))) (pkVar 1))) sNext)
  (sRet (fBin modF (fOf (fBin divF (pkVar 5) (fOf (fC (.int 7))))) (pkVar 1)))))))
def m_ztake : Mir := mir 2 6 (sSeq F_1 F_2)
/-! zbag: 0 zscript 1 zcell -/
def F_zbag : Fs :=
  (sRetO (fLst (fCons (fC (.int 0)) (fCons (fC (.int 1234567891)) (fCons (fC (.int 0)) (fCons (fComp [1] (iAny (fSlice (pkVar 0) ptNone (ptSome (fC (.int 63))))) (bName 1) fYes (fCall absF (lCons (pkVar 1) lNil))) fNil))))))
def m_zbag : Mir := mir 1 2 F_zbag

theorem dt {p : Prop} [Decidable p] (h : p) : decide p = true := decide_eq_true h
theorem df {p : Prop} [Decidable p] (h : ¬ p) : decide p = false := decide_eq_false h
theorem first_e (b : Bg) (m : Int) : ∃ x, soft x = true ∧ F_1 [some (.ref (bagD b)), some (.val (.int m)), none, none, none, none] = .next [some (.ref (bagD b.fresh)), some (.val (.int m)), x, none, none, none] := by
  obtain ⟨r, n, k, cs⟩ := b
  unfold F_1 bagD
  have e1 : ((k + 1 : Nat) : Int) = (k : Int) + 1 := by omega
  by_cases hr : r = 0
  · by_cases hk : k < cs.length
    · have ek : ((k : Int) < (cs.length : Int)) := by omega
      have ec : atN (cs.map PyData.int) k = some (.int (cs.getD k 0)) := by
        rw [atN_get, List.getElem?_map, List.getD_eq_getElem?_getD, List.getElem?_eq_getElem hk]
        rfl
      refine ⟨some (.val (.int (cs.getD k 0))), rfl, ?_⟩
      by_cases hc : 1000000000000000000 ≤ cs.getD k 0
      · simp only [bind_ok, bind_err, bindS_ok, bindS_err, of_some, slot0, slotS, rdVar_e, rdC_val, rdC_own, cellD_val, cellD_own, cellD_ref, pkVar_e, pkC_some, opd_tmp, opd_var, lendC_own, lendC_ref, stor_n, stor_v, stor_o, stor_hit, eq_self, stor_next, map_some', soft_none, soft_val, soft_own, fC_e, fOf_e, ofK_e, op2_e, fBin_e, bin1_e, bin2_e, op1_e, fUn_e, un1_e, fNil_e, fCons_e, cons1_e, cons2_e, apCons_e, fTup_e, fLst_e, tup1_e, lst1_e, lNil_e, lCons_e, lc1_e, lc2_e, opL_nil, opL_cons, op2L_e, opN_e, fCall_e, call1_e, fIsi_e, isi1_e, fMeth_e, meth1_e, methT_s, methT_l, meth2_e, opM_e, fSlice_e, sl1_e, sl2_e, sl3_e, ptNone_e, ptSome_e, toPt_e, toB_e, fB_e, fChain_e, ch1_e, ch2_e, ch3_t, ch3_f, ch4_e, fAnd_e, fOr_e, fNot_e, and1_t, and1_f, or1_t, or1_f, not1_e, fAndV_e, fOrV_e, fNotV_e, andV1_t, andV1_f, orV1_t, orV1_f, notV1_e, fIf_e, if1_t, if1_f, fV_e, fVO_e, v1_e, vO1_e, cellRes_ok, toVal_v, toVal_o, toOwn_o, mapV0, mapV1, apHead_e, apH1_e, apH2_e, fR_e, r1_e, r2_0, r2_1, back1_0, back1_S, backC_own, backC_ref, cellResR_e, cR_ref, cR_none, sSeq_e, seq1_n, seq1_r, seq1_b, seq1_c, sNext_e, sDrop_e, drop1_e, sRet_e, sRetO_e, ret1_e, retO1_e, sRetN_e, sRetV_e, retC_v, retC_o, nextO_e, sSet_e, sSetO_e, set1_e, setO1_e, bName_e, bNil_e, bCons_e, bCons1_e, sAsg_e, asg1_e, storN_e, par1_e, sAugN_e, augN0_e, augN1_e, sIf_e, sif1_t, sif1_f, sFor_e, sfor1_e, iAny_e, anyI_l, anyI_t, anyI_s, iRng1_e, atI_0, atI_1, atI_2, atI_3, atI_4, atI_5, atI_6, atI_7, atI_8, atI_9, atI_10, atI_11, atI_12, atN_0, atN_S, lset_0, lset_S, mapc, putN_e, sItem_e, item1_e, item2_e, item3_e, item4_0, item4_1, item4_2, item4_3, item4_4, item4_5, item4_6, item4_7, item4_8, item4_9, sAugI_e, augIs_e, augIk_e, augI0_0, augI0_1, augI0_2, augI0_3, augI0_4, augI0_5, augI1_e, augI2_e, augI3_e, sApp_e, app0_e, app1_e, mir_e, runBody_e, fin_r, fin_n, outs_n, outs_v, outs_r, addF_i, subF_i, eqF_i, eqF_s, neF_i, neF_s, ltF_i, gtF_i, leF_i, geF_i, isF_n, isnF_n, itF_l, itF_t, lenF_l, lenF_t, absF_i, intF_i, intF_b, negF_i, revF_l, maxF_i, minF_i, listF_l, listF_t, sliceF_l, sliceF_t, List.length_map, List.set_cons_zero, List.set_cons_succ, Int.reducePow, Int.reduceNeg, Int.reduceLT, Int.reduceLE, Int.reduceMod, Int.reduceDiv, decide_true, decide_false, if_true, if_false, and_self, Nat.reduceAdd, Nat.reduceSub, Nat.reduceLeDiff, List.length_cons, List.length_nil, List.map_cons, List.map_nil, List.cons_append, List.nil_append, List.replicate, mulF_l, mulF_r, modF_i, divF_i, dt hr, dt ek, dt hc, atI_nat', ec, Bg.fresh, Bg.cell, if_pos hr, if_pos hk, if_pos hc, e1]
      · simp only [bind_ok, bind_err, bindS_ok, bindS_err, of_some, slot0, slotS, rdVar_e, rdC_val, rdC_own, cellD_val, cellD_own, cellD_ref, pkVar_e, pkC_some, opd_tmp, opd_var, lendC_own, lendC_ref, stor_n, stor_v, stor_o, stor_hit, eq_self, stor_next, map_some', soft_none, soft_val, soft_own, fC_e, fOf_e, ofK_e, op2_e, fBin_e, bin1_e, bin2_e, op1_e, fUn_e, un1_e, fNil_e, fCons_e, cons1_e, cons2_e, apCons_e, fTup_e, fLst_e, tup1_e, lst1_e, lNil_e, lCons_e, lc1_e, lc2_e, opL_nil, opL_cons, op2L_e, opN_e, fCall_e, call1_e, fIsi_e, isi1_e, fMeth_e, meth1_e, methT_s, methT_l, meth2_e, opM_e, fSlice_e, sl1_e, sl2_e, sl3_e, ptNone_e, ptSome_e, toPt_e, toB_e, fB_e, fChain_e, ch1_e, ch2_e, ch3_t, ch3_f, ch4_e, fAnd_e, fOr_e, fNot_e, and1_t, and1_f, or1_t, or1_f, not1_e, fAndV_e, fOrV_e, fNotV_e, andV1_t, andV1_f, orV1_t, orV1_f, notV1_e, fIf_e, if1_t, if1_f, fV_e, fVO_e, v1_e, vO1_e, cellRes_ok, toVal_v, toVal_o, toOwn_o, mapV0, mapV1, apHead_e, apH1_e, apH2_e, fR_e, r1_e, r2_0, r2_1, back1_0, back1_S, backC_own, backC_ref, cellResR_e, cR_ref, cR_none, sSeq_e, seq1_n, seq1_r, seq1_b, seq1_c, sNext_e, sDrop_e, drop1_e, sRet_e, sRetO_e, ret1_e, retO1_e, sRetN_e, sRetV_e, retC_v, retC_o, nextO_e, sSet_e, sSetO_e, set1_e, setO1_e, bName_e, bNil_e, bCons_e, bCons1_e, sAsg_e, asg1_e, storN_e, par1_e, sAugN_e, augN0_e, augN1_e, sIf_e, sif1_t, sif1_f, sFor_e, sfor1_e, iAny_e, anyI_l, anyI_t, anyI_s, iRng1_e, atI_0, atI_1, atI_2, atI_3, atI_4, atI_5, atI_6, atI_7, atI_8, atI_9, atI_10, atI_11, atI_12, atN_0, atN_S, lset_0, lset_S, mapc, putN_e, sItem_e, item1_e, item2_e, item3_e, item4_0, item4_1, item4_2, item4_3, item4_4, item4_5, item4_6, item4_7, item4_8, item4_9, sAugI_e, augIs_e, augIk_e, augI0_0, augI0_1, augI0_2, augI0_3, augI0_4, augI0_5, augI1_e, augI2_e, augI3_e, sApp_e, app0_e, app1_e, mir_e, runBody_e, fin_r, fin_n, outs_n, outs_v, outs_r, addF_i, subF_i, eqF_i, eqF_s, neF_i, neF_s, ltF_i, gtF_i, leF_i, geF_i, isF_n, isnF_n, itF_l, itF_t, lenF_l, lenF_t, absF_i, intF_i, intF_b, negF_i, revF_l, maxF_i, minF_i, listF_l, listF_t, sliceF_l, sliceF_t, List.length_map, List.set_cons_zero, List.set_cons_succ, Int.reducePow, Int.reduceNeg, Int.reduceLT, Int.reduceLE, Int.reduceMod, Int.reduceDiv, decide_true, decide_false, if_true, if_false, and_self, Nat.reduceAdd, Nat.reduceSub, Nat.reduceLeDiff, List.length_cons, List.length_nil, List.map_cons, List.map_nil, List.cons_append, List.nil_append, List.replicate, mulF_l, mulF_r, modF_i, divF_i, dt hr, dt ek, df hc, atI_nat', ec, Bg.fresh, Bg.cell, if_pos hr, if_pos hk, if_neg hc, e1]
    · have ek : ¬ ((k : Int) < (cs.length : Int)) := by omega
      refine ⟨some (.val (.int 0)), rfl, ?_⟩
      simp only [bind_ok, bind_err, bindS_ok, bindS_err, of_some, slot0, slotS, rdVar_e, rdC_val, rdC_own, cellD_val, cellD_own, cellD_ref, pkVar_e, pkC_some, opd_tmp, opd_var, lendC_own, lendC_ref, stor_n, stor_v, stor_o, stor_hit, eq_self, stor_next, map_some', soft_none, soft_val, soft_own, fC_e, fOf_e, ofK_e, op2_e, fBin_e, bin1_e, bin2_e, op1_e, fUn_e, un1_e, fNil_e, fCons_e, cons1_e, cons2_e, apCons_e, fTup_e, fLst_e, tup1_e, lst1_e, lNil_e, lCons_e, lc1_e, lc2_e, opL_nil, opL_cons, op2L_e, opN_e, fCall_e, call1_e, fIsi_e, isi1_e, fMeth_e, meth1_e, methT_s, methT_l, meth2_e, opM_e, fSlice_e, sl1_e, sl2_e, sl3_e, ptNone_e, ptSome_e, toPt_e, toB_e, fB_e, fChain_e, ch1_e, ch2_e, ch3_t, ch3_f, ch4_e, fAnd_e, fOr_e, fNot_e, and1_t, and1_f, or1_t, or1_f, not1_e, fAndV_e, fOrV_e, fNotV_e, andV1_t, andV1_f, orV1_t, orV1_f, notV1_e, fIf_e, if1_t, if1_f, fV_e, fVO_e, v1_e, vO1_e, cellRes_ok, toVal_v, toVal_o, toOwn_o, mapV0, mapV1, apHead_e, apH1_e, apH2_e, fR_e, r1_e, r2_0, r2_1, back1_0, back1_S, backC_own, backC_ref, cellResR_e, cR_ref, cR_none, sSeq_e, seq1_n, seq1_r, seq1_b, seq1_c, sNext_e, sDrop_e, drop1_e, sRet_e, sRetO_e, ret1_e, retO1_e, sRetN_e, sRetV_e, retC_v, retC_o, nextO_e, sSet_e, sSetO_e, set1_e, setO1_e, bName_e, bNil_e, bCons_e, bCons1_e, sAsg_e, asg1_e, storN_e, par1_e, sAugN_e, augN0_e, augN1_e, sIf_e, sif1_t, sif1_f, sFor_e, sfor1_e, iAny_e, anyI_l, anyI_t, anyI_s, iRng1_e, atI_0, atI_1, atI_2, atI_3, atI_4, atI_5, atI_6, atI_7, atI_8, atI_9, atI_10, atI_11, atI_12, atN_0, atN_S, lset_0, lset_S, mapc, putN_e, sItem_e, item1_e, item2_e, item3_e, item4_0, item4_1, item4_2, item4_3, item4_4, item4_5, item4_6, item4_7, item4_8, item4_9, sAugI_e, augIs_e, augIk_e, augI0_0, augI0_1, augI0_2, augI0_3, augI0_4, augI0_5, augI1_e, augI2_e, augI3_e, sApp_e, app0_e, app1_e, mir_e, runBody_e, fin_r, fin_n, outs_n, outs_v, outs_r, addF_i, subF_i, eqF_i, eqF_s, neF_i, neF_s, ltF_i, gtF_i, leF_i, geF_i, isF_n, isnF_n, itF_l, itF_t, lenF_l, lenF_t, absF_i, intF_i, intF_b, negF_i, revF_l, maxF_i, minF_i, listF_l, listF_t, sliceF_l, sliceF_t, List.length_map, List.set_cons_zero, List.set_cons_succ, Int.reducePow, Int.reduceNeg, Int.reduceLT, Int.reduceLE, Int.reduceMod, Int.reduceDiv, decide_true, decide_false, if_true, if_false, and_self, Nat.reduceAdd, Nat.reduceSub, Nat.reduceLeDiff, List.length_cons, List.length_nil, List.map_cons, List.map_nil, List.cons_append, List.nil_append, List.replicate, mulF_l, mulF_r, modF_i, divF_i, dt hr, df ek, atI_nat', Bg.fresh, Bg.cell, if_pos hr, if_neg hk, e1]
  · refine ⟨none, rfl, ?_⟩
    simp only [bind_ok, bind_err, bindS_ok, bindS_err, of_some, slot0, slotS, rdVar_e, rdC_val, rdC_own, cellD_val, cellD_own, cellD_ref, pkVar_e, pkC_some, opd_tmp, opd_var, lendC_own, lendC_ref, stor_n, stor_v, stor_o, stor_hit, eq_self, stor_next, map_some', soft_none, soft_val, soft_own, fC_e, fOf_e, ofK_e, op2_e, fBin_e, bin1_e, bin2_e, op1_e, fUn_e, un1_e, fNil_e, fCons_e, cons1_e, cons2_e, apCons_e, fTup_e, fLst_e, tup1_e, lst1_e, lNil_e, lCons_e, lc1_e, lc2_e, opL_nil, opL_cons, op2L_e, opN_e, fCall_e, call1_e, fIsi_e, isi1_e, fMeth_e, meth1_e, methT_s, methT_l, meth2_e, opM_e, fSlice_e, sl1_e, sl2_e, sl3_e, ptNone_e, ptSome_e, toPt_e, toB_e, fB_e, fChain_e, ch1_e, ch2_e, ch3_t, ch3_f, ch4_e, fAnd_e, fOr_e, fNot_e, and1_t, and1_f, or1_t, or1_f, not1_e, fAndV_e, fOrV_e, fNotV_e, andV1_t, andV1_f, orV1_t, orV1_f, notV1_e, fIf_e, if1_t, if1_f, fV_e, fVO_e, v1_e, vO1_e, cellRes_ok, toVal_v, toVal_o, toOwn_o, mapV0, mapV1, apHead_e, apH1_e, apH2_e, fR_e, r1_e, r2_0, r2_1, back1_0, back1_S, backC_own, backC_ref, cellResR_e, cR_ref, cR_none, sSeq_e, seq1_n, seq1_r, seq1_b, seq1_c, sNext_e, sDrop_e, drop1_e, sRet_e, sRetO_e, ret1_e, retO1_e, sRetN_e, sRetV_e, retC_v, retC_o, nextO_e, sSet_e, sSetO_e, set1_e, setO1_e, bName_e, bNil_e, bCons_e, bCons1_e, sAsg_e, asg1_e, storN_e, par1_e, sAugN_e, augN0_e, augN1_e, sIf_e, sif1_t, sif1_f, sFor_e, sfor1_e, iAny_e, anyI_l, anyI_t, anyI_s, iRng1_e, atI_0, atI_1, atI_2, atI_3, atI_4, atI_5, atI_6, atI_7, atI_8, atI_9, atI_10, atI_11, atI_12, atN_0, atN_S, lset_0, lset_S, mapc, putN_e, sItem_e, item1_e, item2_e, item3_e, item4_0, item4_1, item4_2, item4_3, item4_4, item4_5, item4_6, item4_7, item4_8, item4_9, sAugI_e, augIs_e, augIk_e, augI0_0, augI0_1, augI0_2, augI0_3, augI0_4, augI0_5, augI1_e, augI2_e, augI3_e, sApp_e, app0_e, app1_e, mir_e, runBody_e, fin_r, fin_n, outs_n, outs_v, outs_r, addF_i, subF_i, eqF_i, eqF_s, neF_i, neF_s, ltF_i, gtF_i, leF_i, geF_i, isF_n, isnF_n, itF_l, itF_t, lenF_l, lenF_t, absF_i, intF_i, intF_b, negF_i, revF_l, maxF_i, minF_i, listF_l, listF_t, sliceF_l, sliceF_t, List.length_map, List.set_cons_zero, List.set_cons_succ, Int.reducePow, Int.reduceNeg, Int.reduceLT, Int.reduceLE, Int.reduceMod, Int.reduceDiv, decide_true, decide_false, if_true, if_false, and_self, Nat.reduceAdd, Nat.reduceSub, Nat.reduceLeDiff, List.length_cons, List.length_nil, List.map_cons, List.map_nil, List.cons_append, List.nil_append, List.replicate, mulF_l, mulF_r, modF_i, divF_i, df hr, Bg.fresh, if_neg hr]
/-- a call takes the next number below m -/
theorem take_e (b : Bg) (m : Int) (h0 : 0 < m) (h1 : m < 2 ^ 64) : m_ztake [.ref (bagD b), .val (.int m)] = .ok (.val (.int (takeV b m))) [some (.ref (bagD (takeB b m))), none] := by
  obtain ⟨x, hx, e⟩ := first_e b m
  have h1' : m < 18446744073709551616 := h1
  unfold m_ztake takeV takeB
  generalize b.fresh = c at e ⊢
  obtain ⟨r, n, k, cs⟩ := c
  have em : (-18446744073709551616 < m ∧ m < 18446744073709551616) := by omega
  rw [mir_e (by rfl), runBody_e]
  show fin [.ref (bagD b), .val (.int m)] (sSeq F_1 F_2 [some (.ref (bagD b)), some (.val (.int m)), none, none, none, none]) = _
  rw [sSeq_e, e, seq1_n]
  unfold F_2 bagD
  have f0 : 0 ≤ (n + 1) * 39373 % 1000000007 := Int.emod_nonneg _ (by omega)
  have f1 : (n + 1) * 39373 % 1000000007 < 1000000007 := Int.emod_lt_of_pos _ (by omega)
  have f2 : -18446744073709551616 < (n + 1) * 39373 % 1000000007 ∧ (n + 1) * 39373 % 1000000007 < 18446744073709551616 := by omega
  by_cases hr : 0 < r
  · simp only [bind_ok, bind_err, bindS_ok, bindS_err, of_some, slot0, slotS, rdVar_e, rdC_val, rdC_own, cellD_val, cellD_own, cellD_ref, pkVar_e, pkC_some, opd_tmp, opd_var, lendC_own, lendC_ref, stor_n, stor_v, stor_o, stor_hit, eq_self, stor_next, map_some', soft_none, soft_val, soft_own, fC_e, fOf_e, ofK_e, op2_e, fBin_e, bin1_e, bin2_e, op1_e, fUn_e, un1_e, fNil_e, fCons_e, cons1_e, cons2_e, apCons_e, fTup_e, fLst_e, tup1_e, lst1_e, lNil_e, lCons_e, lc1_e, lc2_e, opL_nil, opL_cons, op2L_e, opN_e, fCall_e, call1_e, fIsi_e, isi1_e, fMeth_e, meth1_e, methT_s, methT_l, meth2_e, opM_e, fSlice_e, sl1_e, sl2_e, sl3_e, ptNone_e, ptSome_e, toPt_e, toB_e, fB_e, fChain_e, ch1_e, ch2_e, ch3_t, ch3_f, ch4_e, fAnd_e, fOr_e, fNot_e, and1_t, and1_f, or1_t, or1_f, not1_e, fAndV_e, fOrV_e, fNotV_e, andV1_t, andV1_f, orV1_t, orV1_f, notV1_e, fIf_e, if1_t, if1_f, fV_e, fVO_e, v1_e, vO1_e, cellRes_ok, toVal_v, toVal_o, toOwn_o, mapV0, mapV1, apHead_e, apH1_e, apH2_e, fR_e, r1_e, r2_0, r2_1, back1_0, back1_S, backC_own, backC_ref, cellResR_e, cR_ref, cR_none, sSeq_e, seq1_n, seq1_r, seq1_b, seq1_c, sNext_e, sDrop_e, drop1_e, sRet_e, sRetO_e, ret1_e, retO1_e, sRetN_e, sRetV_e, retC_v, retC_o, nextO_e, sSet_e, sSetO_e, set1_e, setO1_e, bName_e, bNil_e, bCons_e, bCons1_e, sAsg_e, asg1_e, storN_e, par1_e, sAugN_e, augN0_e, augN1_e, sIf_e, sif1_t, sif1_f, sFor_e, sfor1_e, iAny_e, anyI_l, anyI_t, anyI_s, iRng1_e, atI_0, atI_1, atI_2, atI_3, atI_4, atI_5, atI_6, atI_7, atI_8, atI_9, atI_10, atI_11, atI_12, atN_0, atN_S, lset_0, lset_S, mapc, putN_e, sItem_e, item1_e, item2_e, item3_e, item4_0, item4_1, item4_2, item4_3, item4_4, item4_5, item4_6, item4_7, item4_8, item4_9, sAugI_e, augIs_e, augIk_e, augI0_0, augI0_1, augI0_2, augI0_3, augI0_4, augI0_5, augI1_e, augI2_e, augI3_e, sApp_e, app0_e, app1_e, mir_e, runBody_e, fin_r, fin_n, outs_n, outs_v, outs_r, addF_i, subF_i, eqF_i, eqF_s, neF_i, neF_s, ltF_i, gtF_i, leF_i, geF_i, isF_n, isnF_n, itF_l, itF_t, lenF_l, lenF_t, absF_i, intF_i, intF_b, negF_i, revF_l, maxF_i, minF_i, listF_l, listF_t, sliceF_l, sliceF_t, List.length_map, List.set_cons_zero, List.set_cons_succ, Int.reducePow, Int.reduceNeg, Int.reduceLT, Int.reduceLE, Int.reduceMod, Int.reduceDiv, decide_true, decide_false, if_true, if_false, and_self, Nat.reduceAdd, Nat.reduceSub, Nat.reduceLeDiff, List.length_cons, List.length_nil, List.map_cons, List.map_nil, List.cons_append, List.nil_append, List.replicate, mulF_l, mulF_r, modF_i, divF_i, dt hr, hx, if_pos hr, if_true, h0, h1']
  · by_cases hm : 1000000 < m
    · simp only [bind_ok, bind_err, bindS_ok, bindS_err, of_some, slot0, slotS, rdVar_e, rdC_val, rdC_own, cellD_val, cellD_own, cellD_ref, pkVar_e, pkC_some, opd_tmp, opd_var, lendC_own, lendC_ref, stor_n, stor_v, stor_o, stor_hit, eq_self, stor_next, map_some', soft_none, soft_val, soft_own, fC_e, fOf_e, ofK_e, op2_e, fBin_e, bin1_e, bin2_e, op1_e, fUn_e, un1_e, fNil_e, fCons_e, cons1_e, cons2_e, apCons_e, fTup_e, fLst_e, tup1_e, lst1_e, lNil_e, lCons_e, lc1_e, lc2_e, opL_nil, opL_cons, op2L_e, opN_e, fCall_e, call1_e, fIsi_e, isi1_e, fMeth_e, meth1_e, methT_s, methT_l, meth2_e, opM_e, fSlice_e, sl1_e, sl2_e, sl3_e, ptNone_e, ptSome_e, toPt_e, toB_e, fB_e, fChain_e, ch1_e, ch2_e, ch3_t, ch3_f, ch4_e, fAnd_e, fOr_e, fNot_e, and1_t, and1_f, or1_t, or1_f, not1_e, fAndV_e, fOrV_e, fNotV_e, andV1_t, andV1_f, orV1_t, orV1_f, notV1_e, fIf_e, if1_t, if1_f, fV_e, fVO_e, v1_e, vO1_e, cellRes_ok, toVal_v, toVal_o, toOwn_o, mapV0, mapV1, apHead_e, apH1_e, apH2_e, fR_e, r1_e, r2_0, r2_1, back1_0, back1_S, backC_own, backC_ref, cellResR_e, cR_ref, cR_none, sSeq_e, seq1_n, seq1_r, seq1_b, seq1_c, sNext_e, sDrop_e, drop1_e, sRet_e, sRetO_e, ret1_e, retO1_e, sRetN_e, sRetV_e, retC_v, retC_o, nextO_e, sSet_e, sSetO_e, set1_e, setO1_e, bName_e, bNil_e, bCons_e, bCons1_e, sAsg_e, asg1_e, storN_e, par1_e, sAugN_e, augN0_e, augN1_e, sIf_e, sif1_t, sif1_f, sFor_e, sfor1_e, iAny_e, anyI_l, anyI_t, anyI_s, iRng1_e, atI_0, atI_1, atI_2, atI_3, atI_4, atI_5, atI_6, atI_7, atI_8, atI_9, atI_10, atI_11, atI_12, atN_0, atN_S, lset_0, lset_S, mapc, putN_e, sItem_e, item1_e, item2_e, item3_e, item4_0, item4_1, item4_2, item4_3, item4_4, item4_5, item4_6, item4_7, item4_8, item4_9, sAugI_e, augIs_e, augIk_e, augI0_0, augI0_1, augI0_2, augI0_3, augI0_4, augI0_5, augI1_e, augI2_e, augI3_e, sApp_e, app0_e, app1_e, mir_e, runBody_e, fin_r, fin_n, outs_n, outs_v, outs_r, addF_i, subF_i, eqF_i, eqF_s, neF_i, neF_s, ltF_i, gtF_i, leF_i, geF_i, isF_n, isnF_n, itF_l, itF_t, lenF_l, lenF_t, absF_i, intF_i, intF_b, negF_i, revF_l, maxF_i, minF_i, listF_l, listF_t, sliceF_l, sliceF_t, List.length_map, List.set_cons_zero, List.set_cons_succ, Int.reducePow, Int.reduceNeg, Int.reduceLT, Int.reduceLE, Int.reduceMod, Int.reduceDiv, decide_true, decide_false, if_true, if_false, and_self, Nat.reduceAdd, Nat.reduceSub, Nat.reduceLeDiff, List.length_cons, List.length_nil, List.map_cons, List.map_nil, List.cons_append, List.nil_append, List.replicate, mulF_l, mulF_r, modF_i, divF_i, df hr, dt hm, hx, if_neg hr, if_pos hm, h0, h1', f2]
    · simp only [bind_ok, bind_err, bindS_ok, bindS_err, of_some, slot0, slotS, rdVar_e, rdC_val, rdC_own, cellD_val, cellD_own, cellD_ref, pkVar_e, pkC_some, opd_tmp, opd_var, lendC_own, lendC_ref, stor_n, stor_v, stor_o, stor_hit, eq_self, stor_next, map_some', soft_none, soft_val, soft_own, fC_e, fOf_e, ofK_e, op2_e, fBin_e, bin1_e, bin2_e, op1_e, fUn_e, un1_e, fNil_e, fCons_e, cons1_e, cons2_e, apCons_e, fTup_e, fLst_e, tup1_e, lst1_e, lNil_e, lCons_e, lc1_e, lc2_e, opL_nil, opL_cons, op2L_e, opN_e, fCall_e, call1_e, fIsi_e, isi1_e, fMeth_e, meth1_e, methT_s, methT_l, meth2_e, opM_e, fSlice_e, sl1_e, sl2_e, sl3_e, ptNone_e, ptSome_e, toPt_e, toB_e, fB_e, fChain_e, ch1_e, ch2_e, ch3_t, ch3_f, ch4_e, fAnd_e, fOr_e, fNot_e, and1_t, and1_f, or1_t, or1_f, not1_e, fAndV_e, fOrV_e, fNotV_e, andV1_t, andV1_f, orV1_t, orV1_f, notV1_e, fIf_e, if1_t, if1_f, fV_e, fVO_e, v1_e, vO1_e, cellRes_ok, toVal_v, toVal_o, toOwn_o, mapV0, mapV1, apHead_e, apH1_e, apH2_e, fR_e, r1_e, r2_0, r2_1, back1_0, back1_S, backC_own, backC_ref, cellResR_e, cR_ref, cR_none, sSeq_e, seq1_n, seq1_r, seq1_b, seq1_c, sNext_e, sDrop_e, drop1_e, sRet_e, sRetO_e, ret1_e, retO1_e, sRetN_e, sRetV_e, retC_v, retC_o, nextO_e, sSet_e, sSetO_e, set1_e, setO1_e, bName_e, bNil_e, bCons_e, bCons1_e, sAsg_e, asg1_e, storN_e, par1_e, sAugN_e, augN0_e, augN1_e, sIf_e, sif1_t, sif1_f, sFor_e, sfor1_e, iAny_e, anyI_l, anyI_t, anyI_s, iRng1_e, atI_0, atI_1, atI_2, atI_3, atI_4, atI_5, atI_6, atI_7, atI_8, atI_9, atI_10, atI_11, atI_12, atN_0, atN_S, lset_0, lset_S, mapc, putN_e, sItem_e, item1_e, item2_e, item3_e, item4_0, item4_1, item4_2, item4_3, item4_4, item4_5, item4_6, item4_7, item4_8, item4_9, sAugI_e, augIs_e, augIk_e, augI0_0, augI0_1, augI0_2, augI0_3, augI0_4, augI0_5, augI1_e, augI2_e, augI3_e, sApp_e, app0_e, app1_e, mir_e, runBody_e, fin_r, fin_n, outs_n, outs_v, outs_r, addF_i, subF_i, eqF_i, eqF_s, neF_i, neF_s, ltF_i, gtF_i, leF_i, geF_i, isF_n, isnF_n, itF_l, itF_t, lenF_l, lenF_t, absF_i, intF_i, intF_b, negF_i, revF_l, maxF_i, minF_i, listF_l, listF_t, sliceF_l, sliceF_t, List.length_map, List.set_cons_zero, List.set_cons_succ, Int.reducePow, Int.reduceNeg, Int.reduceLT, Int.reduceLE, Int.reduceMod, Int.reduceDiv, decide_true, decide_false, if_true, if_false, and_self, Nat.reduceAdd, Nat.reduceSub, Nat.reduceLeDiff, List.length_cons, List.length_nil, List.map_cons, List.map_nil, List.cons_append, List.nil_append, List.replicate, mulF_l, mulF_r, modF_i, divF_i, df hr, df hm, hx, if_neg hr, if_neg hm, h0, h1', f2]
def absI (i : Int) : Int := if i < 0 then -i else i
def absD : D → D
  | .int i => .int (absI i)
  | d => d
def bag0 (ns : List Int) : Bg := ⟨0, 1234567891, 0, (ns.take 63).map absI⟩
theorem bag_e (ns : List Int) (hn : ns.length ≤ 63) : m_zbag [.val (scriptD ns)] = .ok (.own (bagD (bag0 ns))) [none] := by
  unfold m_zbag F_zbag
  have cut : cutD (ns.map PyData.int) none (some 63) = (ns.take 63).map .int := by
    unfold cutD
    rw [HT.sIx_none]
    have e : HT.sIx (ns.map PyData.int).length (ns.map PyData.int).length (some 63) = ns.length := by
      rw [show (some (63 : Int)) = some ((63 : Nat) : Int) from rfl, HT.sIx_nat, List.length_map]
      omega
    rw [e, List.take_of_length_le hn, List.drop_zero, Nat.sub_zero]
    exact List.take_of_length_le (by simp)
  have c := comp_map (i := 1) (I := iAny (fSlice (pkVar 0) ptNone (ptSome (fC (.int 63))))) (T := fYes) (E := fCall absF (lCons (pkVar 1) lNil)) (δ := [some (.val (scriptD ns)), none]) (δ1 := [some (.val (scriptD ns)), none]) (ds := (ns.take 63).map .int) (fun _ => true) absD
    (by
      unfold scriptD
      simp only [bind_ok, bind_err, bindS_ok, bindS_err, of_some, slot0, slotS, rdVar_e, rdC_val, rdC_own, cellD_val, cellD_own, cellD_ref, pkVar_e, pkC_some, opd_tmp, opd_var, lendC_own, lendC_ref, stor_n, stor_v, stor_o, stor_hit, eq_self, stor_next, map_some', soft_none, soft_val, soft_own, fC_e, fOf_e, ofK_e, op2_e, fBin_e, bin1_e, bin2_e, op1_e, fUn_e, un1_e, fNil_e, fCons_e, cons1_e, cons2_e, apCons_e, fTup_e, fLst_e, tup1_e, lst1_e, lNil_e, lCons_e, lc1_e, lc2_e, opL_nil, opL_cons, op2L_e, opN_e, fCall_e, call1_e, fIsi_e, isi1_e, fMeth_e, meth1_e, methT_s, methT_l, meth2_e, opM_e, fSlice_e, sl1_e, sl2_e, sl3_e, ptNone_e, ptSome_e, toPt_e, toB_e, fB_e, fChain_e, ch1_e, ch2_e, ch3_t, ch3_f, ch4_e, fAnd_e, fOr_e, fNot_e, and1_t, and1_f, or1_t, or1_f, not1_e, fAndV_e, fOrV_e, fNotV_e, andV1_t, andV1_f, orV1_t, orV1_f, notV1_e, fIf_e, if1_t, if1_f, fV_e, fVO_e, v1_e, vO1_e, cellRes_ok, toVal_v, toVal_o, toOwn_o, mapV0, mapV1, apHead_e, apH1_e, apH2_e, fR_e, r1_e, r2_0, r2_1, back1_0, back1_S, backC_own, backC_ref, cellResR_e, cR_ref, cR_none, sSeq_e, seq1_n, seq1_r, seq1_b, seq1_c, sNext_e, sDrop_e, drop1_e, sRet_e, sRetO_e, ret1_e, retO1_e, sRetN_e, sRetV_e, retC_v, retC_o, nextO_e, sSet_e, sSetO_e, set1_e, setO1_e, bName_e, bNil_e, bCons_e, bCons1_e, sAsg_e, asg1_e, storN_e, par1_e, sAugN_e, augN0_e, augN1_e, sIf_e, sif1_t, sif1_f, sFor_e, sfor1_e, iAny_e, anyI_l, anyI_t, anyI_s, iRng1_e, atI_0, atI_1, atI_2, atI_3, atI_4, atI_5, atI_6, atI_7, atI_8, atI_9, atI_10, atI_11, atI_12, atN_0, atN_S, lset_0, lset_S, mapc, putN_e, sItem_e, item1_e, item2_e, item3_e, item4_0, item4_1, item4_2, item4_3, item4_4, item4_5, item4_6, item4_7, item4_8, item4_9, sAugI_e, augIs_e, augIk_e, augI0_0, augI0_1, augI0_2, augI0_3, augI0_4, augI0_5, augI1_e, augI2_e, augI3_e, sApp_e, app0_e, app1_e, mir_e, runBody_e, fin_r, fin_n, outs_n, outs_v, outs_r, addF_i, subF_i, eqF_i, eqF_s, neF_i, neF_s, ltF_i, gtF_i, leF_i, geF_i, isF_n, isnF_n, itF_l, itF_t, lenF_l, lenF_t, absF_i, intF_i, intF_b, negF_i, revF_l, maxF_i, minF_i, listF_l, listF_t, sliceF_l, sliceF_t, List.length_map, List.set_cons_zero, List.set_cons_succ, Int.reducePow, Int.reduceNeg, Int.reduceLT, Int.reduceLE, Int.reduceMod, Int.reduceDiv, decide_true, decide_false, if_true, if_false, and_self, Nat.reduceAdd, Nat.reduceSub, Nat.reduceLeDiff, List.length_cons, List.length_nil, List.map_cons, List.map_nil, List.cons_append, List.nil_append, List.replicate, mulF_l, mulF_r, modF_i, divF_i, cut])
    (Nat.lt_succ_self 1) rfl (by simp; omega) (fun d hd => by
      obtain ⟨i, _, rfl⟩ := List.mem_map.mp hd
      refine ⟨rfl, fun _ => ?_⟩
      simp only [bind_ok, bind_err, bindS_ok, bindS_err, of_some, slot0, slotS, rdVar_e, rdC_val, rdC_own, cellD_val, cellD_own, cellD_ref, pkVar_e, pkC_some, opd_tmp, opd_var, lendC_own, lendC_ref, stor_n, stor_v, stor_o, stor_hit, eq_self, stor_next, map_some', soft_none, soft_val, soft_own, fC_e, fOf_e, ofK_e, op2_e, fBin_e, bin1_e, bin2_e, op1_e, fUn_e, un1_e, fNil_e, fCons_e, cons1_e, cons2_e, apCons_e, fTup_e, fLst_e, tup1_e, lst1_e, lNil_e, lCons_e, lc1_e, lc2_e, opL_nil, opL_cons, op2L_e, opN_e, fCall_e, call1_e, fIsi_e, isi1_e, fMeth_e, meth1_e, methT_s, methT_l, meth2_e, opM_e, fSlice_e, sl1_e, sl2_e, sl3_e, ptNone_e, ptSome_e, toPt_e, toB_e, fB_e, fChain_e, ch1_e, ch2_e, ch3_t, ch3_f, ch4_e, fAnd_e, fOr_e, fNot_e, and1_t, and1_f, or1_t, or1_f, not1_e, fAndV_e, fOrV_e, fNotV_e, andV1_t, andV1_f, orV1_t, orV1_f, notV1_e, fIf_e, if1_t, if1_f, fV_e, fVO_e, v1_e, vO1_e, cellRes_ok, toVal_v, toVal_o, toOwn_o, mapV0, mapV1, apHead_e, apH1_e, apH2_e, fR_e, r1_e, r2_0, r2_1, back1_0, back1_S, backC_own, backC_ref, cellResR_e, cR_ref, cR_none, sSeq_e, seq1_n, seq1_r, seq1_b, seq1_c, sNext_e, sDrop_e, drop1_e, sRet_e, sRetO_e, ret1_e, retO1_e, sRetN_e, sRetV_e, retC_v, retC_o, nextO_e, sSet_e, sSetO_e, set1_e, setO1_e, bName_e, bNil_e, bCons_e, bCons1_e, sAsg_e, asg1_e, storN_e, par1_e, sAugN_e, augN0_e, augN1_e, sIf_e, sif1_t, sif1_f, sFor_e, sfor1_e, iAny_e, anyI_l, anyI_t, anyI_s, iRng1_e, atI_0, atI_1, atI_2, atI_3, atI_4, atI_5, atI_6, atI_7, atI_8, atI_9, atI_10, atI_11, atI_12, atN_0, atN_S, lset_0, lset_S, mapc, putN_e, sItem_e, item1_e, item2_e, item3_e, item4_0, item4_1, item4_2, item4_3, item4_4, item4_5, item4_6, item4_7, item4_8, item4_9, sAugI_e, augIs_e, augIk_e, augI0_0, augI0_1, augI0_2, augI0_3, augI0_4, augI0_5, augI1_e, augI2_e, augI3_e, sApp_e, app0_e, app1_e, mir_e, runBody_e, fin_r, fin_n, outs_n, outs_v, outs_r, addF_i, subF_i, eqF_i, eqF_s, neF_i, neF_s, ltF_i, gtF_i, leF_i, geF_i, isF_n, isnF_n, itF_l, itF_t, lenF_l, lenF_t, absF_i, intF_i, intF_b, negF_i, revF_l, maxF_i, minF_i, listF_l, listF_t, sliceF_l, sliceF_t, List.length_map, List.set_cons_zero, List.set_cons_succ, Int.reducePow, Int.reduceNeg, Int.reduceLT, Int.reduceLE, Int.reduceMod, Int.reduceDiv, decide_true, decide_false, if_true, if_false, and_self, Nat.reduceAdd, Nat.reduceSub, Nat.reduceLeDiff, List.length_cons, List.length_nil, List.map_cons, List.map_nil, List.cons_append, List.nil_append, List.replicate, mulF_l, mulF_r, modF_i, divF_i, absD, absI])
  rw [mir_e (by rfl), runBody_e]
  show fin _ (sRetO _ [some (.val (scriptD ns)), none]) = _
  have e2 : (((ns.take 63).map PyData.int).filter fun _ => true).map absD = ((ns.take 63).map absI).map PyData.int := by
    rw [List.filter_eq_self.mpr (fun _ _ => rfl), List.map_map, List.map_map]
    rfl
  rw [e2] at c
  simp only [bind_ok, bind_err, bindS_ok, bindS_err, of_some, slot0, slotS, rdVar_e, rdC_val, rdC_own, cellD_val, cellD_own, cellD_ref, pkVar_e, pkC_some, opd_tmp, opd_var, lendC_own, lendC_ref, stor_n, stor_v, stor_o, stor_hit, eq_self, stor_next, map_some', soft_none, soft_val, soft_own, fC_e, fOf_e, ofK_e, op2_e, fBin_e, bin1_e, bin2_e, op1_e, fUn_e, un1_e, fNil_e, fCons_e, cons1_e, cons2_e, apCons_e, fTup_e, fLst_e, tup1_e, lst1_e, lNil_e, lCons_e, lc1_e, lc2_e, opL_nil, opL_cons, op2L_e, opN_e, fCall_e, call1_e, fIsi_e, isi1_e, fMeth_e, meth1_e, methT_s, methT_l, meth2_e, opM_e, fSlice_e, sl1_e, sl2_e, sl3_e, ptNone_e, ptSome_e, toPt_e, toB_e, fB_e, fChain_e, ch1_e, ch2_e, ch3_t, ch3_f, ch4_e, fAnd_e, fOr_e, fNot_e, and1_t, and1_f, or1_t, or1_f, not1_e, fAndV_e, fOrV_e, fNotV_e, andV1_t, andV1_f, orV1_t, orV1_f, notV1_e, fIf_e, if1_t, if1_f, fV_e, fVO_e, v1_e, vO1_e, cellRes_ok, toVal_v, toVal_o, toOwn_o, mapV0, mapV1, apHead_e, apH1_e, apH2_e, fR_e, r1_e, r2_0, r2_1, back1_0, back1_S, backC_own, backC_ref, cellResR_e, cR_ref, cR_none, sSeq_e, seq1_n, seq1_r, seq1_b, seq1_c, sNext_e, sDrop_e, drop1_e, sRet_e, sRetO_e, ret1_e, retO1_e, sRetN_e, sRetV_e, retC_v, retC_o, nextO_e, sSet_e, sSetO_e, set1_e, setO1_e, bName_e, bNil_e, bCons_e, bCons1_e, sAsg_e, asg1_e, storN_e, par1_e, sAugN_e, augN0_e, augN1_e, sIf_e, sif1_t, sif1_f, sFor_e, sfor1_e, iAny_e, anyI_l, anyI_t, anyI_s, iRng1_e, atI_0, atI_1, atI_2, atI_3, atI_4, atI_5, atI_6, atI_7, atI_8, atI_9, atI_10, atI_11, atI_12, atN_0, atN_S, lset_0, lset_S, mapc, putN_e, sItem_e, item1_e, item2_e, item3_e, item4_0, item4_1, item4_2, item4_3, item4_4, item4_5, item4_6, item4_7, item4_8, item4_9, sAugI_e, augIs_e, augIk_e, augI0_0, augI0_1, augI0_2, augI0_3, augI0_4, augI0_5, augI1_e, augI2_e, augI3_e, sApp_e, app0_e, app1_e, mir_e, runBody_e, fin_r, fin_n, outs_n, outs_v, outs_r, addF_i, subF_i, eqF_i, eqF_s, neF_i, neF_s, ltF_i, gtF_i, leF_i, geF_i, isF_n, isnF_n, itF_l, itF_t, lenF_l, lenF_t, absF_i, intF_i, intF_b, negF_i, revF_l, maxF_i, minF_i, listF_l, listF_t, sliceF_l, sliceF_t, List.length_map, List.set_cons_zero, List.set_cons_succ, Int.reducePow, Int.reduceNeg, Int.reduceLT, Int.reduceLE, Int.reduceMod, Int.reduceDiv, decide_true, decide_false, if_true, if_false, and_self, Nat.reduceAdd, Nat.reduceSub, Nat.reduceLeDiff, List.length_cons, List.length_nil, List.map_cons, List.map_nil, List.cons_append, List.nil_append, List.replicate, mulF_l, mulF_r, modF_i, divF_i, c]
  rfl
end Bag
end Dl

set_option Elab.async false
set_option linter.all false
set_option maxRecDepth 100000
set_option maxHeartbeats 400000
/-! Dl17: equality and repr of data; words. -/
namespace Dl
open PySem PySem.Spec PyProof.Rows L2 TL
/-! ### a datum equals itself -/
mutual
theorem eqv_refl : ∀ {d : D}, d.plain = true → PyData.eqv d d = true
  | .none, _ => by simp [PyData.eqv]
  | .bool b, _ => by simp [PyData.eqv]
  | .int b, _ => by simp [PyData.eqv]
  | .str b, _ => by simp [PyData.eqv]
  | .list ds, h => by
    simp only [PyData.eqv]
    exact eqvAll_refl (by simpa only [PyData.plain] using h)
  | .tuple ds, h => by
    simp only [PyData.eqv]
    exact eqvAll_refl (by simpa only [PyData.plain] using h)
  | .dict _, h => by simp [PyData.plain] at h
theorem eqvAll_refl : ∀ {ds : List D}, PyData.plainAll ds = true → PyData.eqvAll ds ds = true
  | [], _ => by simp [PyData.eqvAll]
  | d :: ds, h => by
    simp only [PyData.plainAll, Bool.and_eq_true] at h
    simp only [PyData.eqvAll, eqv_refl h.1, eqvAll_refl h.2, Bool.and_true]
end
/-! ### repr -/
mutual
/-- a datum that repr can tell -/
def good : D → Bool
  | .none | .bool _ => true
  | .int i => decide (i.natAbs.log2 < 1920)
  | .str x => x.cps.toList.all fun c => decide (c < 4294967296)
  | .list ds | .tuple ds => goodAll ds
  | .dict _ => false
def goodAll : List D → Bool
  | [] => true
  | d :: ds => good d && goodAll ds
end
mutual
/-- a bound of its length -/
def szB : D → Nat
  | .none | .bool _ => 5
  | .int _ => 2000
  | .str x => 10 * x.length + 2
  | .list ds | .tuple ds => szAll ds + 5
  | .dict _ => 0
def szAll : List D → Nat
  | [] => 0
  | d :: ds => szB d + 2 + szAll ds
end
mutual
theorem good_plain : ∀ {d : D}, good d = true → d.plain = true ∧ d.showable = true
  | .none, _ => by simp [PyData.plain, PyData.showable]
  | .bool _, _ => by simp [PyData.plain, PyData.showable]
  | .int i, h => by
    simp only [good] at h
    simp only [PyData.plain, PyData.showable]
    exact ⟨trivial, h⟩
  | .str _, _ => by simp [PyData.plain, PyData.showable]
  | .list ds, h => by
    simp only [good] at h
    simp only [PyData.plain, PyData.showable]
    exact goodAll_plain h
  | .tuple ds, h => by
    simp only [good] at h
    simp only [PyData.plain, PyData.showable]
    exact goodAll_plain h
  | .dict _, h => by simp [good] at h
theorem goodAll_plain : ∀ {ds : List D}, goodAll ds = true → PyData.plainAll ds = true ∧ PyData.showableAll ds = true
  | [], _ => by simp [PyData.plainAll, PyData.showableAll]
  | d :: ds, h => by
    simp only [goodAll, Bool.and_eq_true] at h
    obtain ⟨a, b⟩ := good_plain h.1
    obtain ⟨c, e⟩ := goodAll_plain h.2
    simp only [PyData.plainAll, PyData.showableAll, a, b, c, e, Bool.and_self, and_self]
end
theorem dig_len : ∀ (k fuel n : Nat) (ds : List Char), 1 ≤ k → n < 2 ^ k → (Nat.toDigitsCore 10 fuel n ds).length ≤ ds.length + k
  | _, 0, _, ds, _, _ => by simp [Nat.toDigitsCore]
  | k, fuel + 1, n, ds, hk, hn => by
    unfold Nat.toDigitsCore
    by_cases z : n / 10 = 0
    · simp only [z, if_true, List.length_cons]
      omega
    · simp only [z, if_false]
      have two : 2 ≤ k := by
        by_cases one : k = 1
        · subst one
          exact absurd (by omega : n / 10 = 0) z
        · omega
      have half : n / 10 < 2 ^ (k - 1) := by
        have e : 2 ^ k = 2 ^ (k - 1) * 2 := by
          rw [← Nat.pow_succ]
          congr 1
          omega
        omega
      have ih := dig_len (k - 1) fuel (n / 10) (Nat.digitChar (n % 10) :: ds) (by omega) half
      simp only [List.length_cons] at ih
      omega
theorem nat_len {n : Nat} (h : n.log2 < 1920) : (Nat.toDigits 10 n).length ≤ 1921 := by
  have lt : n < 2 ^ 1920 := by
    by_cases z : n = 0
    · subst z
      exact Nat.two_pow_pos _
    · exact (Nat.log2_lt z).mp h
  have := dig_len 1920 (n + 1) n [] (by omega) lt
  unfold Nat.toDigits
  have e : ([] : List Char).length = 0 := rfl
  omega
theorem int_len {i : Int} (h : i.natAbs.log2 < 1920) : (Str.ofString (toString i)).length ≤ 2000 := by
  rw [len_tl, tl_ofString, List.length_map]
  have e : (toString i).toList.length ≤ 1 + (Nat.toDigits 10 i.natAbs).length := by
    show (Int.repr i).toList.length ≤ _
    unfold Int.repr
    cases i with
    | ofNat m =>
      show (Nat.repr m).toList.length ≤ _
      unfold Nat.repr
      rw [String.toList_ofList]
      show _ ≤ 1 + (Nat.toDigits 10 m).length
      omega
    | negSucc m =>
      show ("-" ++ Nat.repr (m + 1)).toList.length ≤ _
      unfold Nat.repr
      rw [String.toList_append, List.length_append]
      simp only [String.toList_ofList]
      show 1 + (Nat.toDigits 10 (m + 1)).length ≤ 1 + (Nat.toDigits 10 (m + 1)).length
      omega
  have := nat_len h
  omega
theorem len_add (x y : Str) : (x ++ y).length = x.length + y.length := by rw [len_tl, tl_append, List.length_append, ← len_tl, ← len_tl]
theorem from_len : ∀ (ts : List Str) (k : Nat) (acc : Str), (textFrom k acc ts).length ≤ acc.length + (ts.map fun t => t.length + 2).sum
  | [], k, acc => by simp [textFrom]
  | t :: r, k, acc => by
    unfold textFrom
    have ih := from_len r (k + 1) (acc ++ (if k > 0 then ", " else "" : String) ++ t)
    rw [len_add, len_add] at ih
    have e : (Str.ofString (if k > 0 then ", " else "" : String)).length ≤ 2 := by split <;> decide
    simp only [List.map_cons, List.sum_cons]
    omega
theorem joinLen : ∀ ts : List Str, (Str.join ", " ts).length ≤ (ts.map fun t => t.length + 2).sum
  | [] => by simp [Str.join]; decide
  | [x] => by simp [Str.join]
  | x :: y :: r => by
    have ih := joinLen (y :: r)
    show (x ++ (", " : Str) ++ Str.join ", " (y :: r)).length ≤ _
    rw [len_add, len_add, List.map_cons, List.sum_cons]
    have e : (Str.ofString ", ").length = 2 := rfl
    omega
mutual
theorem shown_le : ∀ {d : D}, good d = true → d.shown.length ≤ szB d
  | .none, _ => by
    simp only [PyData.shown, szB]
    decide
  | .bool b, _ => by
    simp only [PyData.shown, szB]
    cases b <;> decide
  | .int i, h => by
    simp only [PyData.shown, szB]
    exact int_len (by simpa only [good, decide_eq_true_eq] using h)
  | .str x, h => by
    simp only [PyData.shown, szB]
    refine StrLaws.reprText_len x fun c hc => ?_
    simp only [good, List.all_eq_true, decide_eq_true_eq] at h
    exact h c hc
  | .list ds, h => by
    simp only [PyData.shown, szB]
    have ih := shownAll_le (ds := ds) (by simpa only [good] using h)
    have := from_len (PyData.shownAll ds) 0 "["
    show (textFrom 0 "[" (PyData.shownAll ds) ++ "]").length ≤ _
    rw [len_add]
    have e1 : (Str.ofString "[").length = 1 := rfl
    have e2 : (Str.ofString "]").length = 1 := rfl
    omega
  | .tuple ds, h => by
    simp only [PyData.shown, szB]
    have ih := shownAll_le (ds := ds) (by simpa only [good] using h)
    have := joinLen (PyData.shownAll ds)
    show (("(" : Str) ++ Str.join ", " (PyData.shownAll ds) ++ (if (PyData.shownAll ds).length == 1 then ",)" else ")" : String)).length ≤ _
    rw [len_add, len_add]
    have e1 : (Str.ofString "(").length = 1 := rfl
    have e2 : (Str.ofString (if (PyData.shownAll ds).length == 1 then ",)" else ")" : String)).length ≤ 2 := by split <;> decide
    omega
  | .dict _, h => by simp [good] at h
theorem shownAll_le : ∀ {ds : List D}, goodAll ds = true → ((PyData.shownAll ds).map fun t => t.length + 2).sum ≤ szAll ds
  | [], _ => by simp [PyData.shownAll, szAll]
  | d :: ds, h => by
    simp only [goodAll, Bool.and_eq_true] at h
    have a := shown_le h.1
    have b := shownAll_le h.2
    simp only [PyData.shownAll, szAll, List.map_cons, List.sum_cons]
    omega
end
theorem reprF_ok {d : D} (g : good d = true) (h : d.depth ≤ 60) (s : szB d ≤ 1000000) : reprF [d] = some (.str d.shown) := by
  obtain ⟨a, b⟩ := good_plain g
  exact if_pos ⟨b, a, h, Nat.le_trans (shown_le g) s⟩
theorem eqF_self {d : D} (g : d.plain = true) (h : d.depth ≤ 60) : eqF d d = some (.bool true) := by
  unfold eqF okEq
  rw [eqv_refl g, g]
  simp [h]
theorem neF_self {d : D} (g : d.plain = true) (h : d.depth ≤ 60) : neF d d = some (.bool false) := by
  unfold neF okEq
  rw [eqv_refl g, g]
  simp [h]

/-! ### words -/
/-- a word of letters -/
def IsW (n : Nat) (w : Str) : Prop := 1 ≤ w.length ∧ w.length ≤ n ∧ ∀ c ∈ tl w, 97 ≤ c ∧ c ≤ 122
instance (n : Nat) (w : Str) : Decidable (IsW n w) := by unfold IsW; infer_instance
theorem IsW.good {n : Nat} {w : Str} (h : IsW n w) : good (.str w) = true := by
  simp only [Dl.good, List.all_eq_true, decide_eq_true_eq]
  intro c hc
  have := h.2.2 c hc
  omega
theorem joinL_nil : ∀ l : List (List Nat), joinL [] l = l.flatten
  | [] => rfl
  | [p] => by simp [joinL]
  | p :: q :: r => by
    have ih := joinL_nil (q :: r)
    simp only [joinL, List.nil_append, ih, List.flatten_cons]
theorem join0 (ws : List Str) : tl (Txt.join "" ws) = (ws.map tl).flatten := by
  rw [join_eq, tl_join]
  exact joinL_nil _
/-- letters, one by one -/
def IsL (c : Str) : Prop := ∃ k, c = ⟨#[k]⟩ ∧ 97 ≤ k ∧ k ≤ 122
theorem join_letters : ∀ {ws : List Str}, (∀ w ∈ ws, IsL w) → (tl (Txt.join "" ws)).length = ws.length ∧ ∀ c ∈ tl (Txt.join "" ws), 97 ≤ c ∧ c ≤ 122 := by
  intro ws h
  rw [join0]
  induction ws with
  | nil => exact ⟨rfl, fun _ h => by cases h⟩
  | cons w ws ih =>
    obtain ⟨h1, h2⟩ := ih fun x m => h x (List.mem_cons_of_mem _ m)
    obtain ⟨k, rfl, k1, k2⟩ := h w List.mem_cons_self
    simp only [List.map_cons, List.flatten_cons, List.length_append, List.length_cons]
    refine ⟨by rw [h1]; show 1 + _ = _; omega, fun c hc => ?_⟩
    rcases List.mem_append.mp hc with hc | hc
    · have : c = k := by simpa [tl] using hc
      omega
    · exact h2 c hc
theorem strsOf_map : ∀ ws : List Str, strsOf (ws.map .str) = some ws
  | [] => rfl
  | w :: ws => by
    show (strsOf (ws.map .str)).map (w :: ·) = _
    rw [strsOf_map ws]
    rfl
theorem atI_map {α β : Type} (l : List α) (f : α → β) {i : Int} (h0 : 0 ≤ i) (h1 : i < l.length) (d : α) : atI (l.map f) i = some (f (l.getD i.toNat d)) := by
  have e : i = (i.toNat : Nat) := by omega
  rw [e, atI_nat', atN_get, List.getElem?_map, List.getD_eq_getElem?_getD, Int.toNat_natCast, List.getElem?_eq_getElem (by omega)]
  rfl
theorem getD_mem {α : Type} {l : List α} {i : Nat} {d : α} (h : i < l.length) : l.getD i d ∈ l := by
  rw [List.getD_eq_getElem?_getD, List.getElem?_eq_getElem h]
  exact List.getElem_mem h
end Dl

set_option Elab.async false
set_option linter.all false
set_option maxRecDepth 100000
/-! Dl18: more built-ins over data. -/
namespace Dl
open PySem PySem.Spec PyProof.Rows L2
section
variable {X : Cx} {W : WX} {Mi : Msk} {σ : St} {H H1 : Hp} {δ δ1 : DEnv} {Fv : Fe D} {pos : Pos} {e : Expr}

/-! ### built-ins with keywords -/
def rCK (K : PySem.W.Frag) (f : List D → List D → Option D) : List V → List V → Hp → VK → Prop := fun xs zs H Q =>
  ∃ (M : Msk) (ds es : List D) (d : D), (∀ a, M a → H a ≠ none) ∧ PkAll K M H ds xs ∧ PkAll K M H es zs ∧ f ds es = some d ∧ ∀ v H', Al H H' → Dat K M H' d v → Q v H'
def DK (X : Cx) (W : WX) (ks : List Keyword) (F : Fe (List Opd)) : Prop := PK X ks (tG X W (pL X) F)
theorem PK.imp {ks : List Keyword} {t t' : TA} (h : PK X ks t) (i : ∀ σ H Q, t' σ H Q → t σ H Q) : PK X ks t' := ⟨fun pos pins s σ H Q I q => h.run pos pins s σ H Q I (i _ _ _ q)⟩
def lOne (F : Fe Opd) : Fe (List Opd) := fun δ => (F δ).bind fun d δ1 => .ok [d] δ1
theorem dk_one {nm : Option Str} {p : Pos} {F : Fe Opd} (h : DP X W e F) : DK X W [⟨nm, e, p⟩] (lOne F) := by
  refine PK.imp (pk_cons h pk_nil) fun σ H Q q => ?_
  obtain ⟨Mi, δ, R, q⟩ := tG_bind (P := pO X) q
  refine ⟨Mi, δ, R, q.imp fun v H1 z => ?_⟩
  obtain ⟨Mi, o, δ1, R1, p, r⟩ := z
  refine r [v] H1 (Go.refl R1) ⟨rfl, fun i o' v' ho hv => ?_⟩
  match i, ho, hv with
  | 0, ho, hv =>
    cases ho
    cases hv
    exact p
  | i + 1, ho, hv => cases ho
def fCallK (f : List D → List D → Option D) (F G : Fe (List Opd)) : Fe D := fun δ => (F δ).bind fun os δ1 => (G δ1).bind fun ks δ2 => R.of ((opds δ2 os).bind fun ds => (opds δ2 ks).bind fun es => f ds es) δ2
theorem callK_rd {f : List D → List D → Option D} {F G : Fe (List Opd)} {Q : VK} (q : tG X W (pD X) (fCallK f F G) σ H Q) : tCKw (rCK X.K f) (tG X W (pL X) F) (tG X W (pL X) G) σ H Q := by
  obtain ⟨Mi, δ, R, q⟩ := tG_bind (P := pL X) q
  refine ⟨Mi, δ, R, q.imp fun xs H1 z => ?_⟩
  obtain ⟨Mi, os, δ1, R1, p, r⟩ := z
  refine ⟨Mi, δ1, R1, (RunG.bind (P := pL X) r).imp fun zs H2 z => ?_⟩
  obtain ⟨ks, δ2, g, p2, r2⟩ := z
  have p1 := stays_L _ _ _ _ _ _ _ _ R1 g p
  cases e1 : opds δ2 os with
  | none =>
    rw [e1] at r2
    exact False.elim r2
  | some ds =>
    cases e2 : opds δ2 ks with
    | none =>
      rw [e1, e2] at r2
      exact False.elim r2
    | some es =>
      rw [e1, e2] at r2
      dsimp only [Option.bind_some] at r2
      cases e3 : f ds es with
      | none =>
        rw [e3] at r2
        exact False.elim r2
      | some d =>
        rw [e3] at r2
        exact ⟨msk Mi σ δ2, ds, es, d, fun a m => g.rep.dom' m, opds_pk g.rep p1 e1, opds_pk g.rep p2 e2, e3, fun v H' al dv => r2 v H' (Go.al g.rep al) dv⟩
theorem de_callK {x : Str} {p : Pos} {es : List Expr} {kws : List Keyword} {id : String} {ks : List Str} {f : List D → List D → Option D} {F G : Fe (List Opd)} (hc : CallRK X (.builtin id) ks (rCK X.K f)) (hg : Gl X x) (hm : X.mg x = none) (hv : bootBuiltins x = some (.builtin id)) (ha : DL X W (e :: es) F) (hk : DK X W kws G)
    (hn : x ≠ "__name__" := by decide +kernel) (hdb : (x == ("__debug__" : Str)) = false := by decide +kernel)
    (he : backTo pos (starEach (e :: es) X.env) = (false, eval e X.env) :: backTo pos (starEach es X.env) := by rfl) (hpl : (backTo pos (starEach (e :: es) X.env)).any (·.1) = false := by rfl)
    (hall : (backToKw pos (keywordEach kws X.env)).all (·.1.isSome) = true := by rfl) (hnone : (backToKw pos (keywordEach kws X.env)).any (·.1.isNone) = false := by rfl) (hks : (backToKw pos (keywordEach kws X.env)).filterMap (·.1) = ks := by rfl) :
    DE X W (.Call (.Name x p) (e :: es) kws pos) (fCallK f F G) :=
  PE.imp (pe_callBK hc hg hm hv ha hk hn hdb he hpl hall hnone hks) fun σ H Q q => callK_rd q

/-! ### max and min of a list -/
def alikeB (ds : List D) : Bool := (ds.all fun x => ds.all fun y => PySem.W.alike x y) && ds.all fun x => !isNoneD x
theorem alikeB_un {ds : List D} (h : alikeB ds = true) : PySem.W.AlikeAll ds := by
  unfold alikeB at h
  simp only [Bool.and_eq_true, List.all_eq_true, Bool.not_eq_true'] at h
  exact ⟨fun x hx y hy => h.1 x hx y hy, fun x hx z => by
    have := h.2 x hx
    rw [z] at this
    cases this⟩
def okSeq (ds : List D) : Bool := PyData.plainAll ds && alikeB ds && decide (PyData.depthAll ds ≤ 60)
theorem okSeq_un {ds : List D} (h : okSeq ds = true) : PyData.plainAll ds = true ∧ PySem.W.AlikeAll ds ∧ PyData.depthAll ds ≤ 60 := by
  unfold okSeq at h
  simp only [Bool.and_eq_true, decide_eq_true_eq] at h
  exact ⟨h.1.1, alikeB_un h.1.2, h.2⟩
def maxL : List D → Option D
  | [.list (y :: ys)] => if okSeq (y :: ys) = true then some (PySem.W.maxD y ys) else none
  | _ => none
def minL : List D → Option D
  | [.list (y :: ys)] => if okSeq (y :: ys) = true then some (PySem.W.minD y ys) else none
  | _ => none
/-- a datum that is no container -/
def atomD : D → Bool
  | .none | .bool _ | .int _ | .str _ => true
  | _ => false
theorem pk_atom {K : PySem.W.Frag} {M : Msk} {d : D} {v : V} (h : Pk K M H d v) (a : atomD d = true) : Dat K M H d v := by
  rcases h with h | ⟨b, _, h⟩
  · exact h
  · cases d with
    | list _ => cases a
    | dict _ => cases a
    | _ => exact h.elim
def maxP (e : D) : List D → D
  | [] => e
  | y :: ys => PySem.W.maxD y ys
def minP (e : D) : List D → D
  | [] => e
  | y :: ys => PySem.W.minD y ys
def maxLD : List D → List D → Option D
  | [.list ds], [e] => if okSeq ds = true ∧ atomD e = true then some (maxP e ds) else none
  | _, _ => none
def minLD : List D → List D → Option D
  | [.list ds], [e] => if okSeq ds = true ∧ atomD e = true then some (minP e ds) else none
  | _, _ => none
theorem vals_at : ∀ {xs : List V} {us : List Value} {i : Nat} {u : Value}, Vals xs us → us[i]? = some u → ∃ x, xs[i]? = some x ∧ RelV x u
  | _, _, _, _, .nil, h => by simp at h
  | _, _, 0, _, .cons r _, h => by
    simp at h
    subst h
    exact ⟨_, rfl, r⟩
  | _, _, i + 1, _, .cons _ rs, h => by
    obtain ⟨x, e, r⟩ := vals_at rs (by simpa using h)
    exact ⟨x, by simpa using e, r⟩
/-- a list of data in the heap -/
theorem list_at {M : Msk} {pins : List (Addr × Obj)} {s : Shared} {ds : List D} {v : V} {u : Value} (I : Inv X pins σ H s) (hp : PyData.plainAll ds = true) (h : Pk X.K M H (.list ds) v) (r : RelV v u) :
    ∃ (a : Addr) (xs : List V) (its : List Value) (as : List Addr), u = .ref a ∧ s.heap.IsList a its.toArray ∧ Vals xs its ∧ DatAll X.K M H ds xs ∧ ReadsAll s.heap its ds as ∧ its.length = ds.length ∧ its.length ≤ sizeLine := by
  obtain ⟨a, xs, rfl, l, rr⟩ := h.list
  cases r
  obtain ⟨z, its, n, rv, hl, e⟩ := rd_list I l
  obtain ⟨as, ra⟩ := Dp.readsAll I ds xs its (rr.dp hp) rv
  refine ⟨a, xs, its, as, rfl, ⟨_, e, rfl, n, rfl⟩, rv, rr, ra, ?_, ?_⟩
  · rw [← hl, rr.length]
  · rw [← hl]
    exact z
/-- what was found among the items is an item's datum -/
theorem item_of {M : Msk} {pins : List (Addr × Obj)} {s : Shared} {h' : Heap} {tk : Nat} {ds : List D} {xs : List V} {its : List Value} {i : Nat} {u : Value} {d : D} {bs : List Addr} (I : Inv X pins σ H s) (hp : PyData.plainAll ds = true) (rv : Vals xs its) (rr : DatAll X.K M H ds xs) (e : its[i]? = some u)
    (k : ∀ b o, s.heap.get? b = some o → h'.get? b = some o) (rd : Reads h' u d bs) : ∃ x, RelV x u ∧ Dat X.K M H d x := by
  obtain ⟨x, ex, rx⟩ := vals_at rv e
  obtain ⟨d', ed, dx⟩ := rr.get' ex
  have pd : d'.plain = true := by
    have mem : d' ∈ ds := List.mem_of_getElem? ed
    clear rr ed
    induction ds with
    | nil => cases mem
    | cons y ys ih =>
      simp only [PyData.plainAll, Bool.and_eq_true] at hp
      rcases List.mem_cons.mp mem with z | z
      · rw [z]
        exact hp.1
      · exact ih hp.2 z
  obtain ⟨as, r1⟩ := Pk.reads I pd (.inl dx) rx
  have r2 := PyProof.Rows.Reads.keeps k r1
  obtain ⟨z, _⟩ := PyProof.Rows.reads_det (fun _ _ e _ => e) r2 rd
  rw [z]
  exact ⟨x, rx, dx⟩
theorem call_maxLD (ok : X.A.units + 64 < cLine) (hc : X.calm = true) : CallR X (.builtin "max") (rC X.K maxL) := by
  intro pins s σ H xs us Q I r z
  obtain ⟨M, ds, d, hm, ps, e, q⟩ := z
  unfold maxL at e
  split at e
  · rename_i y ys
    obtain ⟨hk, e⟩ := some_if e
    obtain ⟨hp, ha, hd⟩ := okSeq_un hk
    obtain ⟨v, rfl, pv⟩ := PkAll.one (ds := []) (v := .non) ps
    cases r with
    | cons r1 r0 =>
      cases r0
      obtain ⟨a, zs, its, as, rfl, il, rv, rr, ra, _, _⟩ := list_at I hp pv r1
      refine PySem.W.max_list_data (I.ok.hd hc) il (by simpa using ra) ha (by omega) fun i u h' tk bs hu rd k => ?_
      obtain ⟨x, rx, dx⟩ := item_of (tk := tk) I hp rv rr (by simpa using hu) k rd
      rw [e] at dx
      exact ⟨x, H, I.kept k, rx, q x H Al.refl dx⟩
  · cases e
theorem call_minLD (ok : X.A.units + 64 < cLine) (hc : X.calm = true) : CallR X (.builtin "min") (rC X.K minL) := by
  intro pins s σ H xs us Q I r z
  obtain ⟨M, ds, d, hm, ps, e, q⟩ := z
  unfold minL at e
  split at e
  · rename_i y ys
    obtain ⟨hk, e⟩ := some_if e
    obtain ⟨hp, ha, hd⟩ := okSeq_un hk
    obtain ⟨v, rfl, pv⟩ := PkAll.one (ds := []) (v := .non) ps
    cases r with
    | cons r1 r0 =>
      cases r0
      obtain ⟨a, zs, its, as, rfl, il, rv, rr, ra, _, _⟩ := list_at I hp pv r1
      refine PySem.W.min_list_data (I.ok.hd hc) il (by simpa using ra) ha (by omega) fun i u h' tk bs hu rd k => ?_
      obtain ⟨x, rx, dx⟩ := item_of (tk := tk) I hp rv rr (by simpa using hu) k rd
      rw [e] at dx
      exact ⟨x, H, I.kept k, rx, q x H Al.refl dx⟩
  · cases e
end
end Dl

set_option Elab.async false
set_option linter.all false
set_option maxRecDepth 100000
/-! Dl19: max and min with default, sorted, index, pop. -/
namespace Dl
open PySem PySem.Spec PyProof.Rows L2
section
variable {X : Cx} {W : WX} {Mi : Msk} {σ : St} {H H1 : Hp} {δ δ1 : DEnv} {Fv : Fe D} {pos : Pos} {e : Expr}
theorem call_maxLDk (ok : X.A.units + 64 < cLine) (hc : X.calm = true) : CallRK X (.builtin "max") ["default"] (rCK X.K maxLD) := by
  intro pins s σ H xs zs us ws Q I r rz z
  obtain ⟨M, ds, es, d, hm, ps, pz, e, q⟩ := z
  unfold maxLD at e
  split at e
  · rename_i ds e0
    obtain ⟨⟨hk, at_⟩, e⟩ := some_if e
    obtain ⟨hp, ha, hd⟩ := okSeq_un hk
    obtain ⟨v, rfl, pv⟩ := PkAll.one (ds := []) (v := .non) ps
    obtain ⟨v2, rfl, pv2⟩ := PkAll.one (ds := []) (v := .non) pz
    cases r with
    | cons r1 r0 =>
      cases r0
      cases rz with
      | cons z1 z0 =>
        cases z0
        obtain ⟨a, ys, its, as, rfl, il, rv, rr, ra, _, _⟩ := list_at I hp pv r1
        refine PySem.W.max_list_default (I.ok.hd hc) il (by simpa using ra) ha (by omega) (fun z h' tk k => ?_) fun y ys2 i u h' tk bs ed hu rd k => ?_
        · subst z
          exact ⟨v2, H, I.kept k, z1, q v2 H Al.refl (by rw [← e]; exact pk_atom pv2 at_)⟩
        · obtain ⟨x, rx, dx⟩ := item_of (tk := tk) I hp rv rr (by simpa using hu) k rd
          subst ed
          exact ⟨x, H, I.kept k, rx, q x H Al.refl (by rw [← e]; exact dx)⟩
  · cases e
theorem call_minLDk (ok : X.A.units + 64 < cLine) (hc : X.calm = true) : CallRK X (.builtin "min") ["default"] (rCK X.K minLD) := by
  intro pins s σ H xs zs us ws Q I r rz z
  obtain ⟨M, ds, es, d, hm, ps, pz, e, q⟩ := z
  unfold minLD at e
  split at e
  · rename_i ds e0
    obtain ⟨⟨hk, at_⟩, e⟩ := some_if e
    obtain ⟨hp, ha, hd⟩ := okSeq_un hk
    obtain ⟨v, rfl, pv⟩ := PkAll.one (ds := []) (v := .non) ps
    obtain ⟨v2, rfl, pv2⟩ := PkAll.one (ds := []) (v := .non) pz
    cases r with
    | cons r1 r0 =>
      cases r0
      cases rz with
      | cons z1 z0 =>
        cases z0
        obtain ⟨a, ys, its, as, rfl, il, rv, rr, ra, _, _⟩ := list_at I hp pv r1
        refine PySem.W.min_list_default (I.ok.hd hc) il (by simpa using ra) ha (by omega) (fun z h' tk k => ?_) fun y ys2 i u h' tk bs ed hu rd k => ?_
        · subst z
          exact ⟨v2, H, I.kept k, z1, q v2 H Al.refl (by rw [← e]; exact pk_atom pv2 at_)⟩
        · obtain ⟨x, rx, dx⟩ := item_of (tk := tk) I hp rv rr (by simpa using hu) k rd
          subst ed
          exact ⟨x, H, I.kept k, rx, q x H Al.refl (by rw [← e]; exact dx)⟩
  · cases e
/-! ### sorted -/
def sortD (ds : List D) : List D := ds.mergeSort (PySem.W.dataLe false fun d => d)
def tup1p : D → Bool
  | .tuple (_ :: _) => true
  | _ => false
def noTup : D → Bool
  | .none | .tuple _ => false
  | _ => true
def okSort (ds : List D) : Bool := PyData.plainAll ds && (ds.all fun x => ds.all fun y => PySem.W.alike x y) && (ds.all tup1p || ds.all noTup) && decide (PyData.depthAll ds ≤ 60)
theorem okSort_un {ds : List D} (h : okSort ds = true) : PyData.plainAll ds = true ∧ PySem.W.AllAlike ds ∧ PySem.W.Sortable ds ∧ PyData.depthAll ds ≤ 60 := by
  unfold okSort at h
  simp only [Bool.and_eq_true, decide_eq_true_eq, Bool.or_eq_true, List.all_eq_true] at h
  refine ⟨h.1.1.1, fun d hd d' hd' => h.1.1.2 d hd d' hd', ?_, h.2⟩
  rcases h.1.2 with z | z
  · refine .inl fun d hd => ?_
    have := z d hd
    cases d with
    | tuple xs => cases xs with
      | nil => cases this
      | cons x r => exact ⟨x, r, rfl⟩
    | _ => cases this
  · refine .inr fun d hd => ?_
    have := z d hd
    cases d with
    | none => cases this
    | tuple _ => cases this
    | _ => exact ⟨by simp, by simp⟩
theorem depth_mem : ∀ {ds : List D} {d : D}, d ∈ ds → d.depth ≤ PyData.depthAll ds
  | [], _, h => by cases h
  | x :: xs, d, h => by
    simp only [PyData.depthAll]
    rcases List.mem_cons.mp h with z | z
    · rw [z]
      exact Nat.le_max_left _ _
    · exact Nat.le_trans (depth_mem z) (Nat.le_max_right _ _)
theorem eachs {M : Msk} {K : PySem.W.Frag} {h : Heap} : ∀ {xs : List V} {its : List Value} {ds : List D} {as : List Addr}, Vals xs its → DatAll K M H ds xs → ReadsAll h its ds as →
    PySem.W.EachIs (fun (v : Value) (b : V × D) => RelV b.1 v ∧ Dat K M H b.2 b.1) its (xs.zip ds) ∧ PySem.W.EachIs (fun (v : Value) (b : V × D) => ∃ as, Reads h v b.2 as) its (xs.zip ds) ∧ (xs.zip ds).map Prod.snd = ds
  | [], _, _, _, .nil, r, rd => by
    cases rd
    exact ⟨.nil, .nil, rfl⟩
  | x :: xs, _, _, _, .cons rx rxs, r, rd => by
    cases rd with
    | cons r1 r2 =>
      obtain ⟨v, t, ev, h1, h2⟩ := r.cons_inv
      cases ev
      obtain ⟨a, b, c⟩ := eachs rxs h2 r2
      exact ⟨.cons ⟨rx, h1⟩ a, .cons ⟨_, r1⟩ b, by rw [List.zip_cons_cons, List.map_cons, c]⟩
theorem outs_of {M : Msk} {K : PySem.W.Frag} : ∀ {out : List Value} {bs : List (V × D)}, PySem.W.EachIs (fun (v : Value) (b : V × D) => RelV b.1 v ∧ Dat K M H b.2 b.1) out bs → Vals (bs.map Prod.fst) out ∧ DatAll K M H (bs.map Prod.snd) (bs.map Prod.fst)
  | [], _, h => by
    cases h
    exact ⟨.nil, .nil⟩
  | _ :: _, _, h => by
    cases h with
    | cons h1 h2 =>
      obtain ⟨a, b⟩ := outs_of h2
      exact ⟨.cons h1.1 a, .cons h1.2 b⟩
def rSortN (K : PySem.W.Frag) : List V → Hp → VK → Prop := fun xs H Q => ∃ (M : Msk) (ds : List D), PkAll K M H [.list ds] xs ∧ okSort ds = true ∧ ∀ p zs, H p = none → DatAll K M H (sortD ds) zs → Q (.ref p) (upd H p (.lst zs))
theorem call_sortN (ok : X.A.units + 64 < cLine) : CallR X (.builtin "sorted") (rSortN X.K) := by
  intro pins s σ H xs us Q I r z
  obtain ⟨M, ds, ps, hk, q⟩ := z
  obtain ⟨hp, ha, hs, hd⟩ := okSort_un hk
  obtain ⟨v, rfl, pv⟩ := PkAll.one (ds := []) (v := .non) ps
  cases r with
  | cons r1 r0 =>
    cases r0
    obtain ⟨a, ys, its, as, rfl, il, rv, rr, ra, hl, hz⟩ := list_at I hp pv r1
    obtain ⟨e1, e2, e3⟩ := eachs rv rr ra
    have bl : (ys.zip ds).length = its.length := e1.length.symm
    refine PySem.W.sorted_data (enc := Prod.snd) il e1 e2 (by rw [e3]; exact ha) (by rw [e3]; exact hs) (by rw [bl]; exact hz) (fun b hb => ?_) fun out ho eo => ?_
    · have mem : b.2 ∈ ds := by
        rw [← e3]
        exact List.mem_map_of_mem hb
      have := depth_mem mem
      omega
    · obtain ⟨f1, f2⟩ := outs_of eo
      have em : ((ys.zip ds).mergeSort (PySem.W.dataLe false Prod.snd)).map Prod.snd = sortD ds := by
        unfold sortD
        have t := List.map_mergeSort (r := PySem.W.dataLe false Prod.snd) (s := PySem.W.dataLe false fun d => d) (f := Prod.snd) (l := ys.zip ds) (fun a _ b _ => rfl)
        rw [t, e3]
      rw [em] at f2
      obtain ⟨ep, he'⟩ := PyProof.Rows.sortedAll_at s.heap its out.toArray
      have len : (((ys.zip ds).mergeSort (PySem.W.dataLe false Prod.snd)).map Prod.fst).length ≤ sizeLine := by
        rw [List.length_map, List.length_mergeSort, bl]
        exact hz
      exact ⟨.ref _, upd H (s.heap.objs.size + 1) (.lst (((ys.zip ds).mergeSort (PySem.W.dataLe false Prod.snd)).map Prod.fst)), I.laid (t' := s.toks) (fun _ _ => PyProof.Rows.sortedAll_old) (Nat.le_succ _) ⟨len, out, ep, f1, he'⟩, rfl, q _ _ (I.hok.fresh (Nat.le_succ _)) f2⟩
end
end Dl

set_option Elab.async false
set_option linter.all false
set_option maxRecDepth 100000
/-! Dl20: sorted as a new list; index; pop. -/
namespace Dl
open PySem PySem.Spec PyProof.Rows L2
section
variable {X : Cx} {W : WX} {Mi : Msk} {σ : St} {H H1 : Hp} {δ δ1 : DEnv} {Fv : Fe D} {pos : Pos} {e : Expr}
def sortF : List D → Option D
  | [.list ds] => if okSort ds = true then some (.list (sortD ds)) else none
  | _ => none
/-- sorted(x) as a new list of one's own -/
theorem do_sorted {x : Str} {p : Pos} {F : Fe Opd} (ok : X.A.units + 64 < cLine) (hg : Gl X x) (hm : X.mg x = none) (hv : bootBuiltins x = some (.builtin "sorted")) (ha : DP X W e F) (hn : x ≠ "__name__" := by decide +kernel) (hdb : (x == ("__debug__" : Str)) = false := by decide +kernel)
    (he : starEach [e] X.env = (false, eval e X.env) :: starEach [] X.env := by rfl) (hpl : (backTo pos (starEach [] X.env)).any (·.1) = false := by rfl) : DO X W (.Call (.Name x p) [e] [] pos) (fCall sortF (lCons F lNil)) := by
  refine PE.imp (pe_callB (call_sortN ok) hg hm hv (dl_cons ha dl_nil he) hn hdb he hpl) fun σ H Q q => ?_
  obtain ⟨Mi, δ, R, q⟩ := tN_bind (P := pL X) q
  refine ⟨Mi, δ, R, q.imp fun xs H1 z => ?_⟩
  obtain ⟨Mi, os, δ1, R1, p, r⟩ := z
  cases eo : opds δ1 os with
  | none =>
    rw [eo] at r
    exact False.elim r
  | some ds =>
    rw [eo] at r
    have r2 : RunN X W Mi σ H1 δ1 (Dl.R.of (sortF ds) δ1) Q := r
    have pk := opds_pk R1 p eo
    unfold sortF at r2
    split at r2
    · rename_i ds
      split at r2
      · rename_i hk
        exact ⟨msk Mi σ δ1, ds, pk, hk, fun l zs n dz => RunN.lst (δ' := δ1) R1 r2 dz l n⟩
      · exact False.elim r2
    · exact False.elim r2
/-- l.index(x) -/
def idxD (x : D) : List D → Option Nat
  | [] => none
  | y :: ys => if PyData.eqv y x = true then some 0 else (idxD x ys).map (· + 1)
theorem idxD_at {x : D} : ∀ {ds : List D} {j : Nat}, idxD x ds = some j → ∃ z, ds[j]? = some z ∧ PyData.eqv z x = true ∧ ∀ (m : Nat) (z' : D), m < j → ds[m]? = some z' → PyData.eqv z' x = false
  | [], j, h => by cases h
  | y :: ys, j, h => by
    unfold idxD at h
    split at h
    · rename_i e
      cases h
      exact ⟨y, rfl, e, fun m z' hm _ => absurd hm (Nat.not_lt_zero _)⟩
    · rename_i e
      obtain ⟨k, ek, rfl⟩ := Option.map_eq_some_iff.mp h
      obtain ⟨z, h1, h2, h3⟩ := idxD_at ek
      refine ⟨z, by simpa using h1, h2, fun m z' hm hz => ?_⟩
      cases m with
      | zero =>
        simp at hz
        subst hz
        exact Bool.eq_false_iff.mpr e
      | succ m => exact h3 m z' (by omega) (by simpa using hz)
def lindexM : D → List D → Option D
  | .list ds, [x] => if PyData.plainAll ds = true ∧ x.plain = true ∧ SeqAt.shaped (.list ds) = true ∧ SeqAt.shaped x = true then (idxD x ds).map fun j => .int (j : Nat) else none
  | _, _ => none
theorem mt_lindexD (ok : X.A.units + 65 < cLine) : MtR X "list.index" (rM X.K lindexM) := by
  intro pins s σ H x xs v us Q I rx rxs z
  obtain ⟨M, d, ds, r, hm, px, ps, e, q⟩ := z
  unfold lindexM at e
  split at e
  · rename_i ds y
    split at e
    · rename_i hk
      obtain ⟨h1, h2, h3, h4⟩ := hk
      obtain ⟨j, ej, rfl⟩ := Option.map_eq_some_iff.mp e
      obtain ⟨u, rfl, pu⟩ := PkAll.one (ds := []) (v := .non) ps
      obtain ⟨z, k1, k2, k3⟩ := idxD_at ej
      have dl : Dp X.K H x (.list ds) := px.dp (by simpa only [PyData.plain] using h1)
      obtain ⟨a, zs, rfl, l, rr⟩ := px.list
      exact mt_indexD ok pins s σ H (.ref a) [u] v us Q I rx rxs ⟨a, u, y, ds, j, z, rfl, rfl, dl, pu.dp h2, h3, h4, k1, k2, k3, q _ H Al.refl .mkInt⟩
    · cases e
  · cases e
/-- x.pop(i) -/
def fPop (v : Nat) (Fi : Fe D) : Fe D := fun δ =>
  if isLst δ v = true then (Fi δ).bind fun k δ1 =>
    match lendable δ1 v, k with
    | some (.list ds), .int j => if 0 ≤ j ∧ j < 1000000 then (match ds[j.toNat]? with
      | some d => .ok d (putD v (.list (ds.eraseIdx j.toNat)) δ1)
      | none => .bad) else .bad
    | _, _ => .bad
  else .bad
theorem DatAll.erase {K : PySem.W.Frag} {M : Msk} {ds : List D} {vs : List V} (n : Nat) (h : DatAll K M H ds vs) : DatAll K M H (ds.eraseIdx n) (vs.eraseIdx n) := by
  rw [List.eraseIdx_eq_take_drop_succ, List.eraseIdx_eq_take_drop_succ]
  exact (h.take n).append (h.drop (n + 1))
theorem de_pop {v : Nat} {x : Str} {i : Expr} {p p2 p3 : Pos} {Fi : Fe D} (hp : PE X (.Call (.Attribute (.Name x p) "pop" p2) [i] [] p3) (tBM X.K "list" rPopAt (tVar v) (tCons (tG X W (pD X) Fi) tNil))) : DE X W (.Call (.Attribute (.Name x p) "pop" p2) [i] [] p3) (fPop v Fi) := by
  refine PE.imp hp fun σ H Q z => ?_
  obtain ⟨Mi, δ, R, q⟩ := z
  unfold fPop at q
  split at q
  · rename_i hl
    obtain ⟨d0, hl⟩ := isLst_un hl
    obtain ⟨a, c0, sa, ec0, hc0, ma0, ct0⟩ := lend_slot R hl
    refine ⟨.ref a, sa, ?_, Mi, δ, R, (RunG.bind (P := pD X) q).imp fun w H2 z => ?_⟩
    · obtain ⟨xs, ex, _⟩ := ct0
      exact .inl ⟨rfl, xs, .inl (.inl ex)⟩
    · obtain ⟨k, δ2, g2, pk, r2⟩ := z
      split at r2
      · rename_i ds j hl2
        split at r2
        · rename_i hj
          split at r2
          · rename_i d hd
            obtain ⟨a2, c, sa2, ec, hc, ma, ct⟩ := lend_slot g2.rep hl2
            rw [sa] at sa2
            cases sa2
            obtain ⟨xs, ex, rx⟩ := ct
            have ew : w = .int j := by simpa only [pD, Dat] using pk
            subst ew
            obtain ⟨y, ey, dy⟩ := rx.get hd
            have lt : j.toNat < xs.length := (List.getElem?_eq_some_iff.mp ey).1
            have go : Go X.K Mi Mi σ H2 δ2 σ (upd H2 a (.lst (xs.eraseIdx j.toNat))) (putD v (.list (ds.eraseIdx j.toNat)) δ2) := by
              rw [putD_eq ec]
              exact Go.write g2.rep ec hc sa ⟨_, upd_same, (rx.erase j.toNat).mv (Mv.updM ma)⟩
            refine ⟨a, xs, j, j.toNat, y, rfl, rfl, ex, by omega, by omega, ?_, ey, r2 y _ go (Dat.mv (go.mv g2.rep) dy)⟩
            unfold seqIndex?
            have h1 : ¬ j < 0 := by omega
            have h2 : j < (xs.length : Int) := by omega
            simp only [h1, if_false, hj.1, h2, decide_true, Bool.and_self, if_true]
          · exact False.elim r2
        · exact False.elim r2
      · exact False.elim r2
  · exact q.elim
end
end Dl

set_option Elab.async false
set_option linter.all false
set_option maxRecDepth 100000
/-! Dl21: an own container lent to a part of its own frame; walks over a slot in place. -/
namespace Dl
open PySem PySem.Spec PyProof.Rows L2
section
variable {K : PySem.W.Frag} {Mi Mo : Msk} {σ σ' : St} {H H' : Hp} {δ δ' : DEnv} {a : Addr} {d : D} {i : Nat}
theorem pin_get {j : Nat} {c : Cell} (q : (δ.set i (some (Cell.ref d)))[j]? = some (some c)) : (j = i ∧ c = .ref d) ∨ (j ≠ i ∧ δ[j]? = some (some c)) := by
  rcases get_set_some q with ⟨e, z, _⟩ | z
  · cases z
    exact .inl ⟨e, rfl⟩
  · exact .inr z
theorem pin_own (R : Rep K Mi σ H δ) (e : δ[i]? = some (some (.own d))) (s : σ[i]? = some (some (.ref a))) (b : Addr) : Owned σ δ b ↔ Owned σ (δ.set i (some (.ref d))) b ∨ b = a := by
  constructor
  · rintro ⟨j, d', e1, e2⟩
    by_cases h : j = i
    · subst h
      rw [s] at e2
      cases e2
      exact .inr rfl
    · exact .inl ⟨j, d', by rw [List.getElem?_set_ne (Ne.symm h)]; exact e1, e2⟩
  · rintro (⟨j, d', e1, e2⟩ | rfl)
    · rcases pin_get e1 with ⟨_, z⟩ | ⟨_, z⟩
      · cases z
      · exact ⟨j, d', z, e2⟩
    · exact ⟨i, d, e, s⟩
theorem pin_msk (R : Rep K Mi σ H δ) (e : δ[i]? = some (some (.own d))) (s : σ[i]? = some (some (.ref a))) : msk (plus Mi a) σ (δ.set i (some (.ref d))) = msk Mi σ δ := by
  funext b
  refine propext ⟨fun z => ?_, fun z => ?_⟩
  · rcases z with (z | z) | z
    · exact .inl z
    · exact .inr ((pin_own R e s b).mpr (.inr z))
    · exact .inr ((pin_own R e s b).mpr (.inl z))
  · rcases z with z | z
    · exact .inl (.inl z)
    · rcases (pin_own R e s b).mp z with z | z
      · exact .inr z
      · exact .inl (.inr z)
theorem Rep.pin (R : Rep K Mi σ H δ) (e : δ[i]? = some (some (.own d))) (s : σ[i]? = some (some (.ref a))) : Rep K (plus Mi a) σ H (δ.set i (some (.ref d))) := by
  obtain ⟨v, ev, b, rfl, nb, ct⟩ := R.cell i _ e
  rw [s] at ev
  cases ev
  have hm := pin_msk R e s
  refine ⟨by rw [List.length_set]; exact R.len, fun j c q => ?_, fun j k c c' b ne q1 q2 m1 m2 s1 s2 => ?_, fun b z => ?_⟩
  · rw [hm]
    rcases pin_get q with ⟨rfl, rfl⟩ | ⟨ne, z⟩
    · exact ⟨_, s, a, rfl, .inr rfl, ct⟩
    · obtain ⟨u, eu, r⟩ := R.cell j c z
      refine ⟨u, eu, ?_⟩
      cases c with
      | val d' => exact r
      | exc _ _ _ => exact r
      | own d' =>
        obtain ⟨b, rfl, n2, c2⟩ := r
        refine ⟨b, rfl, fun w => ?_, c2⟩
        rcases w with w | w
        · exact n2 w
        · subst w
          exact R.sep j i _ _ b ne z e rfl rfl eu s
      | ref d' =>
        obtain ⟨b, rfl, n2, c2⟩ := r
        exact ⟨b, rfl, .inl n2, c2⟩
  · have chg : ∀ {j : Nat} {c : Cell}, (δ.set i (some (Cell.ref d)))[j]? = some (some c) → ∃ c2 : Cell, δ[j]? = some (some c2) ∧ (c.isMut = true → c2.isMut = true) := fun {j c} q => by
      rcases pin_get q with ⟨rfl, rfl⟩ | ⟨_, z⟩
      · exact ⟨_, e, fun _ => rfl⟩
      · exact ⟨c, z, id⟩
    obtain ⟨x1, f1, g1⟩ := chg q1
    obtain ⟨x2, f2, g2⟩ := chg q2
    exact R.sep j k x1 x2 b ne f1 f2 (g1 m1) (g2 m2) s1 s2
  · rcases z with z | z
    · exact R.dom b z
    · subst z
      obtain ⟨o, eo⟩ := ct.some
      rw [eo]
      exact Option.some_ne_none _
/-- .. and given back -/
theorem Go.unpin (R : Rep K Mi σ H δ) (e : δ[i]? = some (some (.own d))) (s : σ[i]? = some (some (.ref a))) (na : ¬ Mo a) (g : Go K (plus Mi a) (plus Mo a) σ H (δ.set i (some (.ref d))) σ' H' δ') :
    ∃ d', δ'[i]? = some (some (.ref d')) ∧ Go K Mi Mo σ H δ σ' H' (δ'.set i (some (.own d'))) ∧ msk Mo σ' (δ'.set i (some (.own d'))) = msk (plus Mo a) σ' δ' := by
  have li : i < δ.length := (List.getElem?_eq_some_iff.mp e).1
  obtain ⟨se, d', e'⟩ := g.lent i ⟨d, by rw [List.getElem?_set_self li]⟩
  rw [s] at se
  have li' : i < δ'.length := (List.getElem?_eq_some_iff.mp e').1
  have get : ∀ {j : Nat} {c : Cell}, (δ'.set i (some (Cell.own d')))[j]? = some (some c) → (j = i ∧ c = .own d') ∨ (j ≠ i ∧ δ'[j]? = some (some c)) := fun {j c} q => by
    rcases get_set_some q with ⟨e1, z, _⟩ | z
    · cases z
      exact .inl ⟨e1, rfl⟩
    · exact .inr z
  have own2 : ∀ b, Owned σ' (δ'.set i (some (.own d'))) b ↔ Owned σ' δ' b ∨ b = a := fun b => by
    constructor
    · rintro ⟨j, x, e1, e2⟩
      rcases get e1 with ⟨rfl, _⟩ | ⟨_, z⟩
      · rw [se] at e2
        cases e2
        exact .inr rfl
      · exact .inl ⟨j, x, z, e2⟩
    · rintro (⟨j, x, e1, e2⟩ | z)
      · have ne : j ≠ i := fun z => by
          subst z
          rw [e'] at e1
          cases e1
        exact ⟨j, x, by rw [List.getElem?_set_ne (Ne.symm ne)]; exact e1, e2⟩
      · exact ⟨i, d', by rw [List.getElem?_set_self li'], by rw [z]; exact se⟩
  have hm : msk Mo σ' (δ'.set i (some (.own d'))) = msk (plus Mo a) σ' δ' := by
    funext b
    refine propext ⟨fun z => ?_, fun z => ?_⟩
    · rcases z with z | z
      · exact .inl (.inl z)
      · rcases (own2 b).mp z with z | z
        · exact .inr z
        · exact .inl (.inr z)
    · rcases z with (z | z) | z
      · exact .inl z
      · exact .inr ((own2 b).mpr (.inr z))
      · exact .inr ((own2 b).mpr (.inl z))
  refine ⟨d', e', ⟨⟨by rw [List.length_set]; exact g.rep.len, fun j c q => ?_, fun j k c c' b ne q1 q2 m1 m2 s1 s2 => ?_, fun b z => g.rep.dom b (.inl z)⟩, fun b o n1 n2 h => ?_, fun b z => ?_, fun j z => ?_, fun j z => ?_, g.trk⟩, hm⟩
  · rw [hm]
    rcases get q with ⟨rfl, rfl⟩ | ⟨ne, z⟩
    · obtain ⟨v, ev, b, rfl, _, c2⟩ := g.rep.cell j _ e'
      rw [se] at ev
      cases ev
      exact ⟨_, se, a, rfl, na, c2⟩
    · obtain ⟨u, eu, r⟩ := g.rep.cell j c z
      refine ⟨u, eu, ?_⟩
      cases c with
      | val x => exact r
      | exc _ _ _ => exact r
      | own x =>
        obtain ⟨b, rfl, n2, c2⟩ := r
        exact ⟨b, rfl, fun w => n2 (.inl w), c2⟩
      | ref x =>
        obtain ⟨b, rfl, n2, c2⟩ := r
        refine ⟨b, rfl, ?_, c2⟩
        rcases n2 with w | w
        · exact w
        · subst w
          exact (g.rep.sep j i _ _ b ne z e' rfl rfl eu se).elim
  · have chg : ∀ {j : Nat} {c : Cell}, (δ'.set i (some (Cell.own d')))[j]? = some (some c) → ∃ c2 : Cell, δ'[j]? = some (some c2) ∧ (c.isMut = true → c2.isMut = true) := fun {j c} q => by
      rcases get q with ⟨rfl, rfl⟩ | ⟨_, z⟩
      · exact ⟨_, e', fun _ => rfl⟩
      · exact ⟨c, z, id⟩
    obtain ⟨x1, f1, g1⟩ := chg q1
    obtain ⟨x2, f2, g2⟩ := chg q2
    exact g.rep.sep j k x1 x2 b ne f1 f2 (g1 m1) (g2 m2) s1 s2
  · refine g.stab b o (fun z => n1 ((pin_own R e s b).mpr (.inl z))) (fun z => ?_) h
    obtain ⟨j, x, e1, e2⟩ := z
    rcases pin_get e1 with ⟨rfl, _⟩ | ⟨_, z⟩
    · rw [s] at e2
      cases e2
      exact n1 ⟨j, d, e, s⟩
    · exact n2 ⟨j, x, z, e2⟩
  · rcases (own2 b).mp z with z | z
    · rcases g.own b z with z | z
      · exact .inl ((pin_own R e s b).mpr (.inl z))
      · exact .inr z
    · exact .inl ((pin_own R e s b).mpr (.inr z))
  · obtain ⟨x, z⟩ := z
    have ne : j ≠ i := fun w => by
      subst w
      rw [e] at z
      cases z
    obtain ⟨h1, x2, h2⟩ := g.lent j ⟨x, by rw [List.getElem?_set_ne (Ne.symm ne)]; exact z⟩
    exact ⟨h1, x2, by rw [List.getElem?_set_ne (Ne.symm ne)]; exact h2⟩
  · obtain ⟨x, z⟩ := z
    rcases get z with ⟨_, w⟩ | ⟨ne, w⟩
    · cases w
    · obtain ⟨x2, h2⟩ := g.lentB j ⟨x, w⟩
      rcases pin_get h2 with ⟨w2, _⟩ | ⟨_, w2⟩
      · exact absurd w2 ne
      · exact ⟨x2, w2⟩
end
end Dl

set_option Elab.async false
set_option linter.all false
set_option maxRecDepth 100000
/-! Dl22: for x in v, v a slot: a list of one's own, or a lent one, is walked where it stands. -/
namespace Dl
open PySem PySem.Spec PyProof.Rows L2
section
variable {X : Cx} {W : WX} {Mi : Msk} {σ : St} {H H1 : Hp} {δ δ1 : DEnv} {Fv : Fe D} {pos : Pos} {e : Expr} {body : List Stmt} {F : Fs}
/-- item by item, where it stands -/
def sForR (v : Nat) (B : Bd) (F : Fs) : Nat → Nat → Fs
  | 0, _, _ => .bad
  | n + 1, i, δ => match δ[v]? with
    | some (some (.ref (.list ds))) => (match ds[i]? with
      | some d => (match B d δ with
        | none => .bad
        | some δ1 => match F δ1 with
          | .next δ2 => sForR v B F n (i + 1) δ2
          | .cont δ2 => sForR v B F n (i + 1) δ2
          | .brk δ2 => .next δ2
          | r => r)
      | none => .next δ)
    | _ => .bad
def unpin (v : Nat) (δ : DEnv) : DEnv :=
  match δ[v]? with
  | some (some (.ref d)) => δ.set v (some (.own d))
  | _ => δ
def RS.map (f : DEnv → DEnv) : RS → RS
  | .next δ => .next (f δ)
  | .ret c δ => .ret c (f δ)
  | .brk δ => .brk (f δ)
  | .cont δ => .cont (f δ)
  | .err x δ => .err x (f δ)
  | .bad => .bad
def sForV (v : Nat) (B : Bd) (F : Fs) : Fs := fun δ =>
  match δ[v]? with
  | some (some (.ref _)) => sForR v B F 1000000 0 δ
  | some (some (.own (.list ds))) => (sForR v B F 1000000 0 (δ.set v (some (.ref (.list ds))))).map (unpin v)
  | _ => sFor (iAny (rdVar v)) B F δ
theorem forR_rd {v : Nat} {sl : List Nat} {B : Bd} {E : Ends} {a : Addr} {σ0 : St} {H0 : Hp} {δ0 : DEnv} (R0 : Rep X.K Mi σ0 H0 δ0) (sv : σ0[v]? = some (some (.ref a))) (hv : ∃ d, δ0[v]? = some (some (.ref d))) (q0 : RunS X W Mi σ0 H0 δ0 (sForR v B F 1000000 0 δ0) E) :
    ∃ Wv : Nat → Nat → St → Hp → Prop, (∃ m, Wv 0 m σ0 H0) ∧ ∀ i m σ H, Wv i m σ H →
      ((Itl X.K a).stop i H ∧ E.nx σ H) ∨ ((Itl X.K a).go i H ∧ ∃ N : St → Hp → Prop, (∀ σ' H', N σ' H' → ∃ m', m' < m ∧ Wv (i + 1) m' σ' H') ∧ ∀ x H', (Itl X.K a).yld i H x H' → tB1 X sl B x σ H' fun σ2 H2 => tS X W F { E with nx := N, ct := N, bk := E.nx } σ2 H2) := by
  refine ⟨fun i m σ H => ∃ δ, Go X.K Mi Mi σ0 H0 δ0 σ H δ ∧ RunS X W Mi σ H δ (sForR v B F m i δ) E, ⟨1000000, δ0, Go.refl R0, q0⟩, ?_⟩
  rintro i m σ H ⟨δ, g, q⟩
  cases m with
  | zero => exact q.elim
  | succ n =>
    obtain ⟨se, d', ed⟩ := g.lent v hv
    rw [sv] at se
    unfold sForR at q
    rw [ed] at q
    cases d' with
    | list ds =>
      dsimp only at q
      obtain ⟨u, eu, b, rfl, mb, xs, ex, rx⟩ := g.rep.cell v _ ed
      rw [se] at eu
      cases eu
      have sq : SqL X.K H a xs := .inl (.inl ex)
      cases ei : ds[i]? with
      | none =>
        rw [ei] at q
        refine .inl ⟨⟨xs, sq, ?_⟩, RunS.nx (δ' := δ) g.rep q⟩
        rw [rx.length]
        exact List.getElem?_eq_none_iff.mp ei
      | some d =>
        rw [ei] at q
        dsimp only at q
        obtain ⟨y, ey, dy⟩ := rx.get ei
        refine .inr ⟨⟨xs, y, sq, ey⟩, fun σ' H' => ∃ δ, Go X.K Mi Mi σ0 H0 δ0 σ' H' δ ∧ RunS X W Mi σ' H' δ (sForR v B F n (i + 1) δ) E, fun σ' H' h => ⟨n, Nat.lt_succ_self n, h⟩, fun x H2 hy => ?_⟩
        obtain ⟨rfl, f⟩ := hy
        have ex2 := f xs sq
        rw [ey] at ex2
        cases ex2
        cases eb : B d δ with
        | none =>
          rw [eb] at q
          exact q.elim
        | some δ3 =>
          rw [eb] at q
          refine ⟨Mi, d, δ, g.rep, dy, δ3, eb, fun σ3 g3 _ => ⟨Mi, δ3, g3.rep, ?_⟩⟩
          have q3 : RunS X W Mi σ3 H2 δ3 (match F δ3 with | .next δ2 => sForR v B F n (i + 1) δ2 | .cont δ2 => sForR v B F n (i + 1) δ2 | .brk δ2 => .next δ2 | r => r) E := RunS.go g3 q
          cases ef : F δ3 with
          | next δ4 =>
            rw [ef] at q3
            exact fun σ' H' g4 => ⟨δ4, g.trans (g3.trans g4), RunS.go g4 q3⟩
          | cont δ4 =>
            rw [ef] at q3
            exact fun σ' H' g4 => ⟨δ4, g.trans (g3.trans g4), RunS.go g4 q3⟩
          | brk δ4 =>
            rw [ef] at q3
            exact fun σ' H' g4 => q3 σ' H' g4
          | ret c δ4 =>
            rw [ef] at q3
            cases c <;> exact q3
          | err x δ4 =>
            rw [ef] at q3
            exact q3
          | bad =>
            rw [ef] at q3
            exact q3
    | _ => exact q.elim
/-- a run with the slot lent -/
theorem RunS.pin {r : RS} {E : Ends} {v : Nat} {a : Addr} {d : D} (R : Rep X.K Mi σ H δ) (e : δ[v]? = some (some (.own d))) (s : σ[v]? = some (some (.ref a))) (h : RunS X W Mi σ H δ (r.map (unpin v)) E) : RunS X W (plus Mi a) σ H (δ.set v (some (.ref d))) r E := by
  have na : ¬ Mi a := by
    obtain ⟨u, eu, b, rfl, nb, _⟩ := R.cell v _ e
    rw [s] at eu
    cases eu
    exact nb
  have un : ∀ {δ' d'}, δ'[v]? = some (some (Cell.ref d')) → unpin v δ' = δ'.set v (some (.own d')) := fun {δ' d'} z => by
    unfold unpin
    rw [z]
  cases r with
  | next δ' =>
    intro σ' H' g
    obtain ⟨d', e', g', _⟩ := Go.unpin R e s na g
    exact h σ' H' (by rw [un e']; exact g')
  | brk δ' =>
    intro σ' H' g
    obtain ⟨d', e', g', _⟩ := Go.unpin R e s na g
    exact h σ' H' (by rw [un e']; exact g')
  | cont δ' =>
    intro σ' H' g
    obtain ⟨d', e', g', _⟩ := Go.unpin R e s na g
    exact h σ' H' (by rw [un e']; exact g')
  | err x δ' =>
    intro cls dd σ' H' hc g hx
    obtain ⟨d', e', g', hm⟩ := Go.unpin R e s na g
    exact h cls dd σ' H' hc (by rw [un e']; exact g') (by rw [un e', hm]; exact hx)
  | bad => exact h
  | ret c δ' =>
    cases c with
    | val x =>
      intro u σ' H' g hx
      obtain ⟨d', e', g', hm⟩ := Go.unpin R e s na g
      exact h u σ' H' (by rw [un e']; exact g') (by rw [un e', hm]; exact hx)
    | own x =>
      intro b σ' H' g hb hx
      have ne : b ≠ a := fun z => by
        subst z
        rcases hb with ⟨j, y, e1, e2⟩ | z
        · rcases pin_get e1 with ⟨_, w⟩ | ⟨n, w⟩
          · cases w
          · exact R.sep j v _ _ b n w e rfl rfl e2 s
        · obtain ⟨u, eu, b2, rfl, _, ct⟩ := R.cell v _ e
          rw [s] at eu
          cases eu
          obtain ⟨o, eo⟩ := ct.some
          rw [z] at eo
          cases eo
      have pp : plus (plus Mi a) b = plus (plus Mi b) a := by
        funext c
        refine propext ⟨fun z => ?_, fun z => ?_⟩
        · rcases z with (z | z) | z
          · exact .inl (.inl z)
          · exact .inr z
          · exact .inl (.inr z)
        · rcases z with (z | z) | z
          · exact .inl (.inl z)
          · exact .inr z
          · exact .inl (.inr z)
      rw [pp] at g hx
      obtain ⟨d', e', g', hm⟩ := Go.unpin (Mo := plus Mi b) R e s (fun z => z.elim na fun w => ne w.symm) g
      refine h b σ' H' (by rw [un e']; exact g') ?_ (by rw [un e', hm]; exact hx)
      rcases hb with z | z
      · exact .inl ((pin_own R e s b).mpr (.inl z))
      · exact .inr z
    | ref _ => exact h
    | exc _ _ _ => exact h
theorem var_rd {v : Nat} {Q : VK} (q : tG X W (pD X) (rdVar v) σ H Q) : tVar v σ H Q := by
  obtain ⟨Mi, δ, R, h⟩ := q
  unfold rdVar at h
  split at h
  · rename_i d e
    obtain ⟨u, ev, r⟩ := R.cell v _ e
    exact ⟨u, ev, h u H (Go.refl R) r⟩
  · rename_i d e
    obtain ⟨u, ev, _⟩ := R.cell v _ e
    obtain ⟨g, q⟩ := Go.share R e
    exact ⟨u, ev, h u H g (q u ev)⟩
  · exact h.elim
theorem ds_forV {v : Nat} {tg : Expr} {x : Str} {p : Pos} {sl : List Nat} {B : Bd} (hp : PassesOwn (model X.prog X.w) X.A X.env X.xe) (hc : X.calm = true) (hN : X.N[v]? = some x) (hv : Vis X.env.scope x) (hg : DG X tg sl B) (hb : DSs X W body F)
    (hs : ∀ y, foldedSetIterable (.Name x p) X.env y = pure y := by intro _; rfl) (hd : (x == ("__debug__" : Str)) = false := by decide +kernel) (hcd : (x == ("__classdict__" : Str)) = false := by decide +kernel) : DS X W (.For tg (.Name x p) body [] pos) (sForV v B F) := by
  refine PS.imp (ps_for hp hc (pi_seq (pe_var hN hv hd hcd)) hg hb hs) fun σ H E z => ?_
  obtain ⟨Mi, δ, R, q⟩ := z
  unfold sForV at q
  split at q
  · rename_i d ed
    obtain ⟨u, eu, a, rfl, ma, ct⟩ := R.cell v _ ed
    have wv := forR_rd (sl := sl) R eu ⟨d, ed⟩ q
    cases d with
    | list ds =>
      obtain ⟨xs, ex, _⟩ := ct
      exact ⟨.ref a, eu, .inl ⟨a, xs, rfl, .inl (.inl ex), wv⟩⟩
    | dict ds =>
      have bad : RunS X W Mi σ H δ .bad E := by
        have q2 := q
        unfold sForR at q2
        rw [ed] at q2
        exact q2
      exact bad.elim
    | _ => exact ct.elim
  · rename_i ds ed
    obtain ⟨u, eu, a, rfl, na, ct⟩ := R.cell v _ ed
    obtain ⟨xs, ex, _⟩ := ct
    have li : v < δ.length := (List.getElem?_eq_some_iff.mp ed).1
    have q2 := RunS.pin R ed eu q
    have wv := forR_rd (sl := sl) (R.pin ed eu) eu ⟨.list ds, by rw [List.getElem?_set_self li]⟩ q2
    exact ⟨.ref a, eu, .inl ⟨a, xs, rfl, .inl (.inl ex), wv⟩⟩
  · have f := for_rd (sl := sl) (W := W) (I := iAny (rdVar v)) ⟨Mi, δ, R, q⟩
    exact var_rd (any_rd f)
/-! ### evaluation -/
def forVc (v : Nat) (B : Bd) (F : Fs) (δ : DEnv) : Option Cell → RS
  | some (.ref _) => sForR v B F 1000000 0 δ
  | some (.own (.list ds)) => (sForR v B F 1000000 0 (δ.set v (some (.ref (.list ds))))).map (unpin v)
  | _ => sFor (iAny (rdVar v)) B F δ
theorem forV_e (v : Nat) (B : Bd) (F : Fs) : sForV v B F δ = forVc v B F δ (slot δ v) := by
  rw [slot_eq]
  unfold sForV forVc
  cases h : δ[v]? with
  | none => rfl
  | some x => cases x with
    | none => rfl
    | some c => cases c with
      | own d => cases d <;> rfl
      | _ => rfl
theorem forVc_v (v : Nat) (B : Bd) (F : Fs) {d : D} : forVc v B F δ (some (.val d)) = sFor (iAny (rdVar v)) B F δ := rfl
theorem forVc_r (v : Nat) (B : Bd) (F : Fs) {d : D} : forVc v B F δ (some (.ref d)) = sForR v B F 1000000 0 δ := rfl
theorem forVc_o (v : Nat) (B : Bd) (F : Fs) {ds : List D} : forVc v B F δ (some (.own (.list ds))) = (sForR v B F 1000000 0 (δ.set v (some (.ref (.list ds))))).map (unpin v) := rfl
theorem map_n {f : DEnv → DEnv} : (RS.next δ).map f = .next (f δ) := rfl
theorem map_r {f : DEnv → DEnv} {c : Cell} : (RS.ret c δ).map f = .ret c (f δ) := rfl
/-- the walk over a lent list that stays as it is: as over its items -/
theorem forR_same {v : Nat} {B : Bd} {F : Fs} {ds : List D} (n : Nat) : ∀ (i m : Nat) (δ : DEnv), n = ds.length - i → n < m → i ≤ ds.length → δ[v]? = some (some (.ref (.list ds))) →
    (∀ d ∈ ds, ∀ δ δ1 : DEnv, δ[v]? = some (some (.ref (.list ds))) → B d δ = some δ1 → ∀ δ2, (F δ1 = .next δ2 ∨ F δ1 = .cont δ2) → δ2[v]? = some (some (.ref (.list ds)))) →
    sForR v B F m i δ = sForL B F (ds.drop i) δ := by
  induction n with
  | zero =>
    intro i m δ hn hm hi hv _
    have e : i = ds.length := by omega
    obtain ⟨k, rfl⟩ : ∃ k, m = k + 1 := ⟨m - 1, by omega⟩
    subst e
    unfold sForR
    rw [hv]
    dsimp only
    rw [List.getElem?_eq_none (Nat.le_refl _), List.drop_length]
    rfl
  | succ n ih =>
    intro i m δ hn hm hi hv st
    obtain ⟨k, rfl⟩ : ∃ k, m = k + 1 := ⟨m - 1, by omega⟩
    have lt : i < ds.length := by omega
    unfold sForR
    rw [hv]
    dsimp only
    rw [List.getElem?_eq_getElem lt, List.drop_eq_getElem_cons lt]
    dsimp only
    unfold sForL
    cases eb : B ds[i] δ with
    | none => rfl
    | some δ1 =>
      dsimp only
      cases ef : F δ1 with
      | next δ2 => exact ih (i + 1) k δ2 (by omega) (by omega) lt (st _ (List.getElem_mem lt) δ δ1 hv eb δ2 (.inl ef)) st
      | cont δ2 => exact ih (i + 1) k δ2 (by omega) (by omega) lt (st _ (List.getElem_mem lt) δ δ1 hv eb δ2 (.inr ef)) st
      | _ => rfl
theorem r2_2 (m : Mir) (i : Nat) (g : Cell → DEnv → R D) (d0 d1 d2 : D) (ds : List D) {d : D} : r2 m 2 i g (d0 :: d1 :: d2 :: ds) δ (some d) = (cellResR i 2 (m (.val d0 :: .val d1 :: .ref d :: ds.map .val)) δ).bind g := rfl
/-! pop, index, keywords -/
def pop2 (v : Nat) (k : D) (δ : DEnv) : Option D → R D
  | some (.list ds) => (match k with
    | .int j => if 0 ≤ j ∧ j < 1000000 then (match ds[j.toNat]? with
      | some d => .ok d (back1 δ v (.list (ds.eraseIdx j.toNat)))
      | none => .bad) else .bad
    | _ => .bad)
  | _ => .bad
def pop1 (v : Nat) (k : D) (δ : DEnv) : R D := pop2 v k δ (lendC (slot δ v))
def pop0 (v : Nat) (Fi : Fe D) (δ : DEnv) : Option D → R D
  | some (.list _) => (Fi δ).bind (pop1 v)
  | _ => .bad
theorem fPop_e (v : Nat) (Fi : Fe D) : fPop v Fi δ = pop0 v Fi δ (lendC (slot δ v)) := by
  rw [← lend_e]
  unfold fPop pop0 isLst
  cases lendable δ v with
  | none => rfl
  | some c => cases c with
    | list ds =>
      refine (if_pos rfl).trans ?_
      dsimp only
      congr 1
      funext k δ1
      unfold pop1
      rw [← lend_e]
      unfold pop2
      cases lendable δ1 v with
      | none => rfl
      | some q => cases q with
        | list ds =>
          cases k with
          | int j =>
            dsimp only
            split
            · cases ds[j.toNat]? with
              | none => rfl
              | some d =>
                dsimp only
                rw [put_e]
            · rfl
          | _ => rfl
        | _ => rfl
    | _ => rfl
theorem pop0_e (v : Nat) (Fi : Fe D) {ds : List D} : pop0 v Fi δ (some (.list ds)) = (Fi δ).bind (pop1 v) := by
  unfold pop0
  rfl
theorem pop1_e (v : Nat) {k : D} : pop1 v k δ = pop2 v k δ (lendC (slot δ v)) := by
  unfold pop1
  rfl
theorem pop2_e (v : Nat) {ds : List D} {j : Nat} {d : D} (h : ds[j]? = some d) (hj : j < 1000000) : pop2 v (.int (j : Int)) δ (some (.list ds)) = .ok d (back1 δ v (.list (ds.eraseIdx j))) := by
  unfold pop2
  dsimp only
  rw [if_pos (by omega), Int.toNat_natCast, h]
def lOne1 (d : Opd) (δ : DEnv) : R (List Opd) := .ok [d] δ
theorem lOne_e (F : Fe Opd) : lOne F δ = (F δ).bind lOne1 := rfl
theorem lOne1_e (d : Opd) : lOne1 d δ = .ok [d] δ := rfl
def opN2 (f : List D → List D → Option D) : Option (List D) → Option (List D) → Option D
  | some a, some b => f a b
  | _, _ => none
theorem opN2_e {f : List D → List D → Option D} {a b : List D} : opN2 f (some a) (some b) = f a b := rfl
def ck2 (f : List D → List D → Option D) (os ks : List Opd) (δ : DEnv) : R D := R.of (opN2 f (opL δ os) (opL δ ks)) δ
def ck1 (f : List D → List D → Option D) (G : Fe (List Opd)) (os : List Opd) (δ : DEnv) : R D := (G δ).bind (ck2 f os)
theorem fCallK_e (f : List D → List D → Option D) (F G : Fe (List Opd)) : fCallK f F G δ = (F δ).bind (ck1 f G) := by
  unfold fCallK
  congr 1
  funext os δ1
  unfold ck1
  congr 1
  funext ks δ2
  unfold ck2
  rw [opds_e, opds_e]
  cases opL δ2 os with
  | none => rfl
  | some a => cases opL δ2 ks <;> rfl
theorem ck1_e (f : List D → List D → Option D) (G : Fe (List Opd)) (os : List Opd) : ck1 f G os δ = (G δ).bind (ck2 f os) := rfl
theorem ck2_e (f : List D → List D → Option D) (os ks : List Opd) : ck2 f os ks δ = R.of (opN2 f (opL δ os) (opL δ ks)) δ := rfl
theorem Ok.hu5 {k : Nat} (o : Ok X k) : X.A.units + 65 < cLine := by
  have h := o.room.un
  omega
end
end Dl

set_option Elab.async false
set_option linter.all false
set_option maxRecDepth 100000
set_option maxHeartbeats 0
namespace k13
open PySem PySem.Spec PyProof.Rows L2 Dl
/-! lifts: 0 bridge 1 offer 2 ask 3 call 4 major 5 other 6 minor 7 offered 8 wanted -/
def F_lifts : Fs :=
  (sSeq (sAsg (rdVar 0) (bTup 4 (bCons (bName 3) (bCons (bName 4) (bCons (bName 5) (bCons (bName 6) bNil))))))
  (sSeq (sPar 7 8 (fCons (fBin itF (pkVar 1) (fOf (fC (.int 1)))) (fCons (fBin itF (pkVar 2) (fOf (fC (.int 1)))) fNil)))
  (sRet (fAndV (fBin eqF (pkVar 3) (fOf (fBin itF (pkVar 1) (fOf (fC (.int 0)))))) (fAndV (fBin eqF (fOf (fTup (fCons (rdVar 4) (fCons (rdVar 5) fNil)))) (fOf (fTup (fCons (fBin itF (pkVar 7) (fOf (fC (.int 0)))) (fCons (fBin itF (pkVar 8) (fOf (fC (.int 0)))) fNil))))) (fBin leF (fOf (fBin itF (pkVar 8) (fOf (fC (.int 1))))) (pkVar 6)))))))
def m_lifts : Mir := mir 3 9 F_lifts
/-! zbag: 0 zscript 1 zcell -/
def I_zbag_1 : Fe (List D) := (iAny (fSlice (pkVar 0) ptNone (ptSome (fC (.int 63)))))
def E_zbag_1 : Fe D := (fCall absF (lCons (pkVar 1) lNil))
def C_zbag_1 : Fe D := (fComp [1] I_zbag_1 (bName 1) fYes E_zbag_1)
def F_zbag : Fs :=
  (sRetO (fLst (fCons (fC (.int 0)) (fCons (fC (.int 1234567891)) (fCons (fC (.int 0)) (fCons C_zbag_1 fNil))))))
def m_zbag : Mir := mir 1 2 F_zbag
/-! ztake: 0 zbag_here 1 zmany 2 zcell 3 zvalue 4 zfirst 5 zsecond -/
def F_ztake : Fs :=
  (sSeq (sIf (fB (fBin eqF (fOf (fBin itF (pkVar 0) (fOf (fC (.int 0))))) (fOf (fC (.int 0))))) (sSeq (sSet 2 (fC (.int 0)))
  (sSeq (sIf (fB (fBin ltF (fOf (fBin itF (pkVar 0) (fOf (fC (.int 2))))) (fOf (fCall lenF (lCons (fOf (fBin itF (pkVar 0) (fOf (fC (.int 3))))) lNil))))) (sSet 2 (fBin itF (fOf (fBin itF (pkVar 0) (fOf (fC (.int 3))))) (fOf (fBin itF (pkVar 0) (fOf (fC (.int 2))))))) sNext)
  (sSeq (sAugI 0 (fun a b => a + b) (fC (.int 2)) (fC (.int 1)))
  (sSeq (sIf (fB (fBin geF (pkVar 2) (fOf (fC (.int 1000000000000000000))))) (sItem 0 (fC (.int 0)) (rdVar 2)) sNext)
  (sItem 0 (fC (.int 1)) (fBin modF (fOf (fBin addF (fOf (fBin addF (fOf (fBin mulF (fOf (fBin itF (pkVar 0) (fOf (fC (.int 1))))) (fOf (fC (.int 48271))))) (fOf (fBin modF (pkVar 2) (fOf (fC (.int 2147483647))))))) (fOf (fBin mulF (fOf (fC (.int 7919))) (fOf (fBin itF (pkVar 0) (fOf (fC (.int 2))))))))) (fOf (fC (.int 2147483647))))))))) sNext)
  (sSeq (sIf (fB (fBin gtF (fOf (fBin itF (pkVar 0) (fOf (fC (.int 0))))) (fOf (fC (.int 0))))) (sSeq (sSet 3 (fBin modF (fOf (fBin itF (pkVar 0) (fOf (fC (.int 0))))) (pkVar 1)))
  (sSeq (sItem 0 (fC (.int 0)) (fBin divF (fOf (fBin itF (pkVar 0) (fOf (fC (.int 0))))) (pkVar 1)))
  (sRetV 3))) sNext)
  (sSeq (sSet 4 (fBin modF (fOf (fBin mulF (fOf (fBin addF (fOf (fBin itF (pkVar 0) (fOf (fC (.int 1))))) (fOf (fC (.int 1))))) (fOf (fC (.int 39373))))) (fOf (fC (.int 1000000007)))))
  (sSeq (sSet 5 (fBin modF (fOf (fBin mulF (fOf (fBin modF (fOf (fBin mulF (pkVar 4) (pkVar 4))) (fOf (fC (.int 998244353))))) (fOf (fC (.int 30011))))) (fOf (fC (.int 998244353)))))
  (sSeq (sIf (fB (fBin gtF (pkVar 1) (fOf (fC (.int 1000000))))) (sRet (fBin modF (fOf (fBin addF (fOf (fBin mulF (pkVar 5) (fOf (fC (.int 1000000007))))) (pkVar 4))) (pkVar 1))) sNext)
  (sRet (fBin modF (fOf (fBin divF (pkVar 5) (fOf (fC (.int 7))))) (pkVar 1))))))))
def m_ztake : Mir := mir 2 6 F_ztake
/-! zdue: 0 zoffer 1 zask 2 zbridges 3 zsome 4 zone -/
def I_zdue_1 : Fe (List D) := (iAny (rdVar 2))
def E_zdue_1 : Fe D := (rdVar 4)
def T_zdue_1 : Fe Bool := (fAnd (fB (fBin eqF (fOf (fSlice (pkVar 4) ptNone (ptSome (fC (.int 3))))) (fOf (fTup (fCons (fBin itF (pkVar 1) (fOf (fC (.int 0)))) (fCons (fBin itF (fOf (fBin itF (pkVar 0) (fOf (fC (.int 1))))) (fOf (fC (.int 0)))) (fCons (fBin itF (fOf (fBin itF (pkVar 1) (fOf (fC (.int 1))))) (fOf (fC (.int 0)))) fNil))))))) (fB (fBin geF (fOf (fBin itF (pkVar 4) (fOf (fC (.int 3))))) (fOf (fBin itF (fOf (fBin itF (pkVar 1) (fOf (fC (.int 1))))) (fOf (fC (.int 1))))))))
def C_zdue_1 : Fe D := (fComp [4] I_zdue_1 (bName 4) T_zdue_1 E_zdue_1)
def F_zdue : Fs :=
  (sSeq (sIf (fB (fBin neF (fOf (fBin itF (pkVar 0) (fOf (fC (.int 0))))) (fOf (fBin itF (pkVar 1) (fOf (fC (.int 0))))))) (sRet (fC .none)) sNext)
  (sSeq (sIf (fAnd (fB (fBin eqF (fOf (fBin itF (fOf (fBin itF (pkVar 0) (fOf (fC (.int 1))))) (fOf (fC (.int 0))))) (fOf (fBin itF (fOf (fBin itF (pkVar 1) (fOf (fC (.int 1))))) (fOf (fC (.int 0))))))) (fB (fBin geF (fOf (fBin itF (fOf (fBin itF (pkVar 0) (fOf (fC (.int 1))))) (fOf (fC (.int 1))))) (fOf (fBin itF (fOf (fBin itF (pkVar 1) (fOf (fC (.int 1))))) (fOf (fC (.int 1)))))))) (sRet (fC (.str "same"))) sNext)
  (sSeq (sSetO 3 C_zdue_1)
  (sRet (fBin itF (fOf (fBin addF (pkVar 3) (fOf (fLst (fCons (fC .none) fNil))))) (fOf (fC (.int 0))))))))
def m_zdue : Mir := mir 3 5 F_zdue
/-! zalike: 0 zfound 1 zdue_here -/
def F_zalike : Fs :=
  (sRet (fAndV (fBin eqF (pkVar 0) (pkVar 1)) (fBin eqF (fOf (fCall reprF (lCons (pkVar 0) lNil))) (fOf (fCall reprF (lCons (pkVar 1) lNil))))))
def m_zalike : Mir := mir 2 2 F_zalike
/-! meets: 0 offer 1 ask 2 bridges 3 offered 4 wanted 5 bridge -/
def I_meets_1 : Fe (List D) := (iAny (rdVar 2))
def Y_meets_1 : Fs := (sIf (fB (fV m_lifts (fCons (rdVar 5) (fCons (rdVar 0) (fCons (rdVar 1) fNil))))) (sRetV 5) sNext)
def L_meets_1 : Fs := (sFor I_meets_1 (bName 5) Y_meets_1)
def F_meets : Fs :=
  (sSeq (sIf (fB (fBin neF (fOf (fBin itF (pkVar 0) (fOf (fC (.int 0))))) (fOf (fBin itF (pkVar 1) (fOf (fC (.int 0))))))) (sRet (fC .none)) sNext)
  (sSeq (sPar 3 4 (fCons (fBin itF (pkVar 0) (fOf (fC (.int 1)))) (fCons (fBin itF (pkVar 1) (fOf (fC (.int 1)))) fNil)))
  (sSeq (sIf (fAnd (fB (fBin eqF (fOf (fBin itF (pkVar 3) (fOf (fC (.int 0))))) (fOf (fBin itF (pkVar 4) (fOf (fC (.int 0))))))) (fB (fBin geF (fOf (fBin itF (pkVar 3) (fOf (fC (.int 1))))) (fOf (fBin itF (pkVar 4) (fOf (fC (.int 1)))))))) (sRet (fC (.str "same"))) sNext)
  (sSeq L_meets_1
  (sRet (fC .none))))))
def m_meets : Mir := mir 3 6 F_meets
/-! zword: 0 zbag_here 1 zsome 2 zletters 3 zk -/
def I_zword_1 : Fe (List D) := (iRng1 (fBin addF (fOf (fC (.int 1))) (fOf (fR m_ztake 0 0 toVal (apHead 0 (fCons (fC (.int 8)) fNil))))))
def E_zword_1 : Fe D := (fBin itF (pkVar 2) (fOf (fR m_ztake 0 0 toVal (apHead 0 (fCons (fC (.int 26)) fNil)))))
def C_zword_1 : Fe D := (fComp [3] I_zword_1 (bName 3) fYes E_zword_1)
def F_zword : Fs :=
  (sSeq (sSet 1 (fC (.str "offer ask hook on right default key own steps do stock make kept anew emit get put read send")))
  (sSeq (sSet 1 (fMeth "str" splitM (fOf (fBin addF (pkVar 1) (fOf (fC (.str " refuse pass back a b ab zzzzzzzz"))))) (lCons (fOf (fC (.str " "))) lNil)))
  (sSeq (sIf (fB (fBin eqF (fOf (fR m_ztake 0 0 toVal (apHead 0 (fCons (fC (.int 3)) fNil)))) (fOf (fC (.int 0))))) (sRet (fBin itF (pkVar 1) (fOf (fR m_ztake 0 0 toVal (apHead 0 (fCons (fCall lenF (lCons (pkVar 1) lNil)) fNil)))))) sNext)
  (sSeq (sSet 2 (fC (.str "abcdefghijklmnopqrstuvwxyz")))
  (sRet (fMeth "str" joinM (fOf (fC (.str ""))) (lCons (fOf C_zword_1) lNil)))))))
def m_zword : Mir := mir 1 4 F_zword
/-! zversion: 0 zbag_here -/
def F_zversion : Fs :=
  (sRet (fTup (fCons (fR m_ztake 0 0 toVal (apHead 0 (fCons (fC (.int 10)) fNil))) (fCons (fR m_ztake 0 0 toVal (apHead 0 (fCons (fC (.int 10)) fNil))) fNil))))
def m_zversion : Mir := mir 1 1 F_zversion
/-! zbridge: 0 zbag_here 1 zcalls_here 2 zmajor 3 zother -/
def F_zbridge : Fs :=
  (sSeq (sSet 2 (fR m_ztake 0 0 toVal (apHead 0 (fCons (fC (.int 10)) fNil))))
  (sSeq (sSet 3 (fBin modF (fOf (fBin addF (fOf (fBin addF (pkVar 2) (fOf (fC (.int 1))))) (fOf (fR m_ztake 0 0 toVal (apHead 0 (fCons (fC (.int 9)) fNil)))))) (fOf (fC (.int 10)))))
  (sRet (fTup (fCons (fBin itF (pkVar 1) (fOf (fR m_ztake 0 0 toVal (apHead 0 (fCons (fCall lenF (lCons (pkVar 1) lNil)) fNil))))) (fCons (rdVar 2) (fCons (rdVar 3) (fCons (fR m_ztake 0 0 toVal (apHead 0 (fCons (fC (.int 10)) fNil))) fNil))))))))
def m_zbridge : Mir := mir 2 4 F_zbridge
/-! znear_bridge: 0 zbag_here 1 zoffer 2 zask 3 zcall 4 zmajor 5 zother 6 zminor 7 zway 8 zat -/
def F_znear_bridge : Fs :=
  (sSeq (sAsg (fTup (fCons (fBin itF (pkVar 1) (fOf (fC (.int 0)))) (fCons (fBin itF (fOf (fBin itF (pkVar 1) (fOf (fC (.int 1))))) (fOf (fC (.int 0)))) (fCons (fBin itF (fOf (fBin itF (pkVar 2) (fOf (fC (.int 1))))) (fOf (fC (.int 0)))) (fCons (fBin itF (fOf (fBin itF (pkVar 2) (fOf (fC (.int 1))))) (fOf (fC (.int 1)))) fNil))))) (bTup 4 (bCons (bName 3) (bCons (bName 4) (bCons (bName 5) (bCons (bName 6) bNil))))))
  (sSeq (sSet 7 (fR m_ztake 0 0 toVal (apHead 0 (fCons (fC (.int 7)) fNil))))
  (sSeq (sIf (fB (fBin eqF (pkVar 4) (pkVar 5))) (sSet 5 (fBin modF (fOf (fBin addF (pkVar 5) (fOf (fC (.int 1))))) (fOf (fC (.int 10))))) sNext)
  (sSeq (sIf (fB (fBin eqF (pkVar 7) (fOf (fC (.int 0))))) (sRet (fTup (fCons (rdVar 3) (fCons (rdVar 4) (fCons (rdVar 5) (fCons (fCall maxF (lCons (fOf (fC (.int 0))) (lCons (fOf (fBin subF (pkVar 6) (fOf (fC (.int 1))))) lNil))) fNil)))))) sNext)
  (sSeq (sIf (fB (fBin eqF (pkVar 7) (fOf (fC (.int 1))))) (sRet (fTup (fCons (rdVar 3) (fCons (rdVar 5) (fCons (rdVar 4) (fCons (fC (.int 9)) fNil)))))) sNext)
  (sSeq (sIf (fB (fBin eqF (pkVar 7) (fOf (fC (.int 2))))) (sRet (fTup (fCons (rdVar 3) (fCons (rdVar 4) (fCons (rdVar 5) (fCons (rdVar 6) fNil)))))) sNext)
  (sSeq (sIf (fB (fBin eqF (pkVar 7) (fOf (fC (.int 3))))) (sRet (fTup (fCons (rdVar 3) (fCons (fBin modF (fOf (fBin addF (pkVar 4) (fOf (fC (.int 1))))) (fOf (fC (.int 10)))) (fCons (fBin itF (fOf (fLst (fCons (rdVar 5) (fCons (fBin modF (fOf (fBin addF (pkVar 4) (fOf (fC (.int 2))))) (fOf (fC (.int 10)))) fNil)))) (fOf (fCall intF (lCons (fOf (fBin eqF (fOf (fBin modF (fOf (fBin addF (pkVar 4) (fOf (fC (.int 1))))) (fOf (fC (.int 10))))) (pkVar 5))) lNil)))) (fCons (fC (.int 9)) fNil)))))) sNext)
  (sSeq (sIf (fB (fBin eqF (pkVar 7) (fOf (fC (.int 4))))) (sSeq (sSet 8 (fR m_ztake 0 0 toVal (apHead 0 (fCons (fCall lenF (lCons (pkVar 3) lNil)) fNil))))
  (sRet (fTup (fCons (fBin addF (fOf (fBin addF (fOf (fSlice (pkVar 3) ptNone (ptSome (rdVar 8)))) (fOf (fBin itF (fOf (fC (.str "az"))) (fOf (fCall intF (lCons (fOf (fBin eqF (fOf (fBin itF (pkVar 3) (pkVar 8))) (fOf (fC (.str "a"))))) lNil))))))) (fOf (fSlice (pkVar 3) (ptSome (fBin addF (pkVar 8) (fOf (fC (.int 1))))) ptNone))) (fCons (rdVar 4) (fCons (rdVar 5) (fCons (fC (.int 9)) fNil))))))) sNext)
  (sRet (fTup (fCons (rdVar 3) (fCons (rdVar 4) (fCons (rdVar 5) (fCons (fCall minF (lCons (fOf (fC (.int 9))) (lCons (fOf (fBin addF (pkVar 6) (fOf (fR m_ztake 0 0 toVal (apHead 0 (fCons (fC (.int 3)) fNil)))))) lNil))) fNil))))))))))))))
def m_znear_bridge : Mir := mir 3 9 F_znear_bridge
/-! zcalls: 0 zbag_here 1 zword_here 2 zletters 3 zat 4 zletter -/
def F_zcalls : Fs :=
  (sSeq (sPar 1 2 (fCons (fR m_zword 0 0 toVal (apHead 0 fNil)) (fCons (fC (.str "abcdefghijklmnopqrstuvwxyz")) fNil)))
  (sSeq (sSet 3 (fR m_ztake 0 0 toVal (apHead 0 (fCons (fCall lenF (lCons (pkVar 1) lNil)) fNil))))
  (sSeq (sSet 4 (fBin itF (pkVar 2) (fOf (fBin modF (fOf (fBin addF (fOf (fBin addF (fOf (fMeth "str" sindexM (pkVar 2) (lCons (fOf (fBin itF (pkVar 1) (pkVar 3))) lNil))) (fOf (fC (.int 1))))) (fOf (fR m_ztake 0 0 toVal (apHead 0 (fCons (fC (.int 25)) fNil)))))) (fOf (fC (.int 26)))))))
  (sRet (fSlice (fOf (fLst (fCons (rdVar 1) (fCons (fBin addF (fOf (fBin addF (fOf (fSlice (pkVar 1) ptNone (ptSome (rdVar 3)))) (pkVar 4))) (fOf (fSlice (pkVar 1) (ptSome (fBin addF (pkVar 3) (fOf (fC (.int 1))))) ptNone))) (fCons (fC (.str "load")) fNil))))) ptNone (ptSome (fBin addF (fOf (fC (.int 2))) (fOf (fR m_ztake 0 0 toVal (apHead 0 (fCons (fC (.int 2)) fNil)))))))))))
def m_zcalls : Mir := mir 1 5 F_zcalls
/-! zright: 0 zoffer 1 zask 2 zbridges 3 zdue_here 4 zhanded 5 zfound -/
def F_zright : Fs :=
  (sSeq (sSet 3 (fV m_zdue (fCons (rdVar 0) (fCons (rdVar 1) (fCons (rdVar 2) fNil)))))
  (sSeq (sSet 4 (fCall listF (lCons (pkVar 2) lNil)))
  (sSeq (sSet 5 (fV m_meets (fCons (rdVar 0) (fCons (rdVar 1) (fCons (rdVar 4) fNil)))))
  (sRet (fAndV (fV m_zalike (fCons (rdVar 5) (fCons (rdVar 3) fNil))) (fBin eqF (pkVar 4) (pkVar 2)))))))
def m_zright : Mir := mir 3 6 F_zright
/-! law: 0 zscript 1 zbag_here 2 zcalls_here 3 zk 4 zoffer 5 zask 6 zbridges 7 zj 8 zone 9 zother -/
def I_law_1 : Fe (List D) := (iRng1 (fR m_ztake 0 1 toVal (apHead 1 (fCons (fC (.int 9)) fNil))))
def Y_law_1 : Fs := (sSeq (sSet 8 (fBin itF (fOf (fLst (fCons (fR m_zbridge 0 1 toVal (apHead 1 (fCons (rdVar 2) fNil))) (fCons (fR m_znear_bridge 0 1 toVal (apHead 1 (fCons (rdVar 4) (fCons (rdVar 5) fNil)))) fNil)))) (fOf (fR m_ztake 0 1 toVal (apHead 1 (fCons (fC (.int 2)) fNil))))))
  (sApp 6 (rdVar 8)))
def L_law_1 : Fs := (sFor I_law_1 (bName 7) Y_law_1)
def I_law_2 : Fe (List D) := (iAny (fLst (fCons (fTup (fCons (rdVar 4) (fCons (rdVar 5) fNil))) (fCons (fTup (fCons (rdVar 5) (fCons (rdVar 4) fNil))) (fCons (fTup (fCons (rdVar 4) (fCons (rdVar 5) fNil))) fNil)))))
def Y_law_2 : Fs := (sIf (fOr (fNot (fB (fV m_zright (fCons (rdVar 8) (fCons (rdVar 9) (fCons (rdVar 6) fNil)))))) (fNot (fB (fV m_zright (fCons (rdVar 8) (fCons (rdVar 9) (fCons (fUn revF (pkVar 6)) fNil))))))) (sRet (fC (.bool false))) sNext)
def L_law_2 : Fs := (sFor I_law_2 (bTup 2 (bCons (bName 8) (bCons (bName 9) bNil))) Y_law_2)
def I_law_3 : Fe (List D) := (iRng1 (fC (.int 16)))
def Y_law_3 : Fs := (sSeq (sSet 4 (fTup (fCons (fBin itF (pkVar 2) (fOf (fR m_ztake 0 1 toVal (apHead 1 (fCons (fCall lenF (lCons (pkVar 2) lNil)) fNil))))) (fCons (fR m_zversion 0 1 toVal (apHead 1 fNil)) fNil))))
  (sSeq (sSet 5 (fTup (fCons (fBin itF (fOf (fLst (fCons (fBin itF (pkVar 4) (fOf (fC (.int 0)))) (fCons (fBin itF (pkVar 2) (fOf (fR m_ztake 0 1 toVal (apHead 1 (fCons (fCall lenF (lCons (pkVar 2) lNil)) fNil))))) fNil)))) (fOf (fCall intF (lCons (fOf (fBin eqF (fOf (fR m_ztake 0 1 toVal (apHead 1 (fCons (fC (.int 4)) fNil)))) (fOf (fC (.int 0))))) lNil)))) (fCons (fR m_zversion 0 1 toVal (apHead 1 fNil)) fNil))))
  (sSeq (sIf (fB (fBin eqF (fOf (fR m_ztake 0 1 toVal (apHead 1 (fCons (fC (.int 3)) fNil)))) (fOf (fC (.int 0))))) (sSet 5 (fTup (fCons (fBin itF (pkVar 5) (fOf (fC (.int 0)))) (fCons (fTup (fCons (fBin itF (fOf (fBin itF (pkVar 4) (fOf (fC (.int 1))))) (fOf (fC (.int 0)))) (fCons (fCall minF (lCons (fOf (fC (.int 9))) (lCons (fOf (fCall maxF (lCons (fOf (fC (.int 0))) (lCons (fOf (fBin subF (fOf (fBin addF (fOf (fBin itF (fOf (fBin itF (pkVar 4) (fOf (fC (.int 1))))) (fOf (fC (.int 1))))) (fOf (fR m_ztake 0 1 toVal (apHead 1 (fCons (fC (.int 3)) fNil)))))) (fOf (fC (.int 1))))) lNil)))) lNil))) fNil))) fNil)))) sNext)
  (sSeq (sSetO 6 (fLst fNil))
  (sSeq L_law_1
  L_law_2)))))
def L_law_3 : Fs := (sFor I_law_3 (bName 3) Y_law_3)
def F_law : Fs :=
  (sSeq (sSetO 1 (fVO m_zbag (fCons (rdVar 0) fNil)))
  (sSeq (sSet 2 (fR m_zcalls 0 1 toVal (apHead 1 fNil)))
  (sSeq L_law_3
  (sRet (fC (.bool true))))))
def m_law : Mir := mir 1 10 F_law
end k13

set_option Elab.async false
set_option linter.all false
set_option maxRecDepth 100000
set_option maxHeartbeats 0
namespace k13
open PySem PySem.Spec PyProof.Rows L2 Dl TL
local macro_rules
  | `(tactic| simp! [$ls,*]) => `(tactic| simp only [
    bind_ok, bind_err, bindS_ok, bindS_err, of_some, slot0, slotS, rdVar_e, rdC_val, rdC_own, cellD_val, cellD_own, cellD_ref, pkVar_e, pkC_some,
    opd_tmp, opd_var, lendC_own, lendC_ref, stor_n, stor_v, stor_o, stor_hit, eq_self, stor_next, map_some', soft_none, soft_val, soft_own, fC_e,
    fOf_e, ofK_e, op2_e, fBin_e, bin1_e, bin2_e, op1_e, fUn_e, un1_e, fNil_e, fCons_e, cons1_e, cons2_e, apCons_e, fTup_e, fLst_e, tup1_e, lst1_e,
    lNil_e, lCons_e, lc1_e, lc2_e, opL_nil, opL_cons, op2L_e, opN_e, fCall_e, call1_e, fIsi_e, isi1_e, fMeth_e, meth1_e, methT_s, methT_l, meth2_e, opM_e,
    fSlice_e, sl1_e, sl2_e, sl3_e, ptNone_e, ptSome_e, toPt_e, toB_e, fB_e, fChain_e, ch1_e, ch2_e, ch3_t, ch3_f, ch4_e, fAnd_e, fOr_e, fNot_e, and1_t,
    and1_f, or1_t, or1_f, not1_e, fAndV_e, fOrV_e, fNotV_e, andV1_t, andV1_f, orV1_t, orV1_f, notV1_e, fIf_e, if1_t, if1_f, fV_e, fVO_e, v1_e, vO1_e,
    cellRes_ok, toVal_v, toVal_o, toOwn_o, mapV0, mapV1, apHead_e, apH1_e, apH2_e, fR_e, r1_e, r2_0, r2_1, back1_0, back1_S, backC_own, backC_ref,
    cellResR_e, cR_ref, cR_none, sSeq_e, seq1_n, seq1_r, seq1_b, seq1_c, sNext_e, sDrop_e, drop1_e, sRet_e, sRetO_e, ret1_e, retO1_e, sRetN_e, sRetV_e,
    retC_v, retC_o, nextO_e, sSet_e, sSetO_e, set1_e, setO1_e, bName_e, bNil_e, bCons_e, bCons1_e, sAsg_e, asg1_e, storN_e, par1_e, sAugN_e, augN0_e,
    augN1_e, sIf_e, sif1_t, sif1_f, sFor_e, sfor1_e, iAny_e, anyI_l, anyI_t, anyI_s, iRng1_e, atI_0, atI_1, atI_2, atI_3, atI_4, atI_5, atI_6, atI_7,
    atI_8, atI_9, atI_10, atI_11, atI_12, atN_0, atN_S, lset_0, lset_S, mapc, putN_e, sItem_e, item1_e, item2_e, item3_e, item4_0, item4_1, item4_2,
    item4_3, item4_4, item4_5, item4_6, item4_7, item4_8, item4_9, sAugI_e, augIs_e, augIk_e, augI0_0, augI0_1, augI0_2, augI0_3, augI0_4, augI0_5,
    augI1_e, augI2_e, augI3_e, sApp_e, app0_e, app1_e, mir_e, runBody_e, fin_r, fin_n, outs_n, outs_v, outs_r, addF_i, subF_i, eqF_i, eqF_s, neF_i,
    neF_s, ltF_i, gtF_i, leF_i, geF_i, isF_n, isnF_n, itF_l, itF_t, lenF_l, lenF_t, absF_i, intF_i, intF_b, negF_i, revF_l, maxF_i, minF_i, listF_l,
    listF_t, sliceF_l, sliceF_t, List.length_map, List.set_cons_zero, List.set_cons_succ, Int.reducePow, Int.reduceNeg, Int.reduceLT, Int.reduceLE,
    Int.reduceMod, Int.cast_ofNat_Int, Int.natCast_add, Int.reduceAdd, Int.reduceSub, Int.reduceMul, Int.reduceDiv, Int.reduceToNat, decide_true, decide_false, if_true, if_false, and_self, Nat.reduceAdd, Nat.reduceSub,
    Nat.reduceLeDiff, List.length_cons, List.length_nil, List.map_cons, List.map_nil, List.cons_append, List.nil_append, List.replicate, mulF_l,
    mulF_r, modF_i, divF_i,    forV_e, forVc_v, forVc_r, forVc_o, map_n, map_r, r2_2, lOne_e, lOne1_e, opN2_e, fCallK_e, ck1_e, ck2_e,
 $ls,*])
theorem take_m : m_ztake = Bag.m_ztake := rfl
theorem bag_m : m_zbag = Bag.m_zbag := rfl
theorem take_e (b : Bg) (m : Int) (h0 : 0 < m) (h1 : m < 18446744073709551616) : m_ztake [.ref (bagD b), .val (.int m)] = .ok (.val (.int (takeV b m))) [some (.ref (bagD (takeB b m))), none] := by
  rw [take_m]
  exact Bag.take_e b m h0 h1
theorem start (np n : Nat) (F : Fs) (cells : List Cell) (h : cells.length = np) : mir np n F cells = fin cells (F (cells.map some ++ List.replicate (n - cells.length) none)) := by rw [mir_e h, runBody_e]
theorem version_e (b : Bg) : m_zversion [.ref (bagD b)] = .ok (.val (.tuple [.int (takeV b 10), .int (takeV (takeB b 10) 10)])) [some (.ref (bagD (takeB (takeB b 10) 10)))] := by
  unfold m_zversion
  rw [start _ _ _ _ (by rfl)]
  unfold F_zversion
  simp! [take_e]
/-! words -/
def lets : Str := "abcdefghijklmnopqrstuvwxyz"
def wds : List Str := ["offer", "ask", "hook", "on", "right", "default", "key", "own", "steps", "do", "stock", "make", "kept", "anew", "emit", "get", "put", "read", "send", "refuse", "pass", "back", "a", "b", "ab", "zzzzzzzz"]
theorem wds_ok : ∀ w ∈ wds, IsW 8 w := by decide +kernel
def txt1 : Str := "offer ask hook on right default key own steps do stock make kept anew emit get put read send"
def txt2 : Str := " refuse pass back a b ab zzzzzzzz"
theorem add12 : addF (.str txt1) (.str txt2) = some (.str (txt1 ++ txt2)) := addF_s (by decide +kernel)
theorem split12 : splitM (.str (txt1 ++ txt2)) [.str " "] = some (.list (wds.map .str)) := by
  rw [splitM_s (by decide +kernel) (by decide +kernel)]
  have e : Txt.split (txt1 ++ txt2) " " = wds := by decide +kernel
  rw [e]
theorem lets_at {i : Int} (h0 : 0 ≤ i) (h1 : i < 26) : itF (.str lets) (.int i) = some (.str ⟨#[(tl lets).getD i.toNat 0]⟩) := by
  rw [itF_s (by decide +kernel), atI_in (tl lets) h0 (by have : (tl lets).length = 26 := by decide +kernel
                                                         omega) 0]
  rfl
theorem lets_ok : ∀ c ∈ tl lets, 97 ≤ c ∧ c ≤ 122 := by decide +kernel
theorem let_ok {i : Int} (h0 : 0 ≤ i) (h1 : i < 26) : IsL ⟨#[(tl lets).getD i.toNat 0]⟩ := by
  have hl : (tl lets).length = 26 := by decide +kernel
  obtain ⟨a, c⟩ := lets_ok _ (getD_mem (l := tl lets) (i := i.toNat) (d := 0) (by omega))
  exact ⟨_, rfl, a, c⟩
theorem comp_word (b : Bg) (d1 : D) : ∃ (ws : List Str) (b' : Bg), C_zword_1 [some (.ref (bagD b)), some (.val d1), some (.val (.str lets)), none] = .ok (.list (ws.map .str)) [some (.ref (bagD b')), some (.val d1), some (.val (.str lets)), none] ∧ (∀ w ∈ ws, IsL w) ∧ 1 ≤ ws.length ∧ ws.length ≤ 8 := by
  have v0 := takeV_nn (b := b) (m := 8) (by omega)
  have v1 := takeV_lt (b := b) (m := 8) (by omega)
  have rI : I_zword_1 [some (.ref (bagD b)), some (.val d1), some (.val (.str lets)), none] = .ok (rngL 0 (1 + takeV b 8).toNat) [some (.ref (bagD (takeB b 8))), some (.val d1), some (.val (.str lets)), none] := by
    unfold I_zword_1
    simp! [take_e]
    rw [rng1_e (by omega) (by omega)]
  obtain ⟨acc, δ2, e, ln, ga, b2, e2⟩ := comp_inv (i := 3) (E := E_zword_1) (fun δ => ∃ b', δ = [some (.ref (bagD b')), some (.val d1), some (.val (.str lets)), none]) (fun y => ∃ c, y = .str c ∧ IsL c) rI rfl (Nat.lt_succ_self 3)
    (by simp [rngL]; omega) ⟨_, rfl⟩ (fun δ ⟨b', h⟩ => by subst h; exact ⟨rfl, rfl⟩) (fun d _ δ ⟨b', h⟩ => by
      subst h
      have w0 := takeV_nn (b := b') (m := 26) (by omega)
      have w1 := takeV_lt (b := b') (m := 26) (by omega)
      refine ⟨_, [some (.ref (bagD (takeB b' 26))), some (.val d1), some (.val (.str lets)), some (.val d)], ?_, ⟨_, rfl, let_ok w0 w1⟩, takeB b' 26, rfl⟩
      unfold E_zword_1
      simp! [take_e, lets_at w0 w1]) rfl
  subst e2
  obtain ⟨ws, rfl⟩ : ∃ ws : List Str, acc = ws.map .str := by
    clear e ln
    induction acc with
    | nil => exact ⟨[], rfl⟩
    | cons y acc ih =>
      obtain ⟨ws, rfl⟩ := ih fun z m => ga z (List.mem_cons_of_mem _ m)
      obtain ⟨c, rfl, _⟩ := ga y List.mem_cons_self
      exact ⟨c :: ws, rfl⟩
  refine ⟨ws, b2, e, fun w m => ?_, ?_⟩
  · obtain ⟨c, h, hl⟩ := ga _ (List.mem_map_of_mem m)
    cases h
    exact hl
  · have : (rngL 0 (1 + takeV b 8).toNat).length = (1 + takeV b 8).toNat := by simp [rngL]
    rw [List.length_map] at ln
    omega
theorem word_ex (b : Bg) : ∃ w b', m_zword [.ref (bagD b)] = .ok (.val (.str w)) [some (.ref (bagD b'))] ∧ IsW 8 w := by
  have hw : wds.length = 26 := rfl
  have v0 := takeV_nn (b := takeB b 3) (m := 26) (by omega)
  have v1 := takeV_lt (b := takeB b 3) (m := 26) (by omega)
  have at_ : atI (wds.map PyData.str) (takeV (takeB b 3) 26) = some (.str (wds.getD (takeV (takeB b 3) 26).toNat "")) := atI_map wds _ v0 (by rw [hw]; omega) ""
  obtain ⟨ws, b', e, hl, h1, h2⟩ := comp_word (takeB b 3) (.list (wds.map .str))
  obtain ⟨j1, j2⟩ := join_letters hl
  by_cases hz : takeV b 3 = 0
  · refine ⟨wds.getD (takeV (takeB b 3) 26).toNat "", takeB (takeB b 3) 26, ?_, wds_ok _ (getD_mem (by omega))⟩
    unfold m_zword
    rw [start _ _ _ _ (by rfl)]
    unfold F_zword
    have a12 := add12
    have s12 := split12
    unfold txt1 txt2 at a12 s12
    simp! [take_e, a12, s12, hw, hz, at_]
  · refine ⟨Txt.join "" ws, b', ?_, by rw [len_tl]; omega, by rw [len_tl]; omega, j2⟩
    unfold m_zword
    rw [start _ _ _ _ (by rfl)]
    unfold F_zword
    have a12 := add12
    have s12 := split12
    unfold txt1 txt2 at a12 s12
    have jn : joinM (.str "") [.list (ws.map .str)] = some (.str (Txt.join "" ws)) := joinM_l (strsOf_map ws) (by
      have hs : (ws.map (·.length)).sum = ws.length := by
        clear e h1 h2 j1 j2
        induction ws with
        | nil => rfl
        | cons w ws ih =>
          obtain ⟨k, rfl, _⟩ := hl _ List.mem_cons_self
          have := ih fun x m => hl x (List.mem_cons_of_mem _ m)
          simp only [List.map_cons, List.sum_cons, List.length_cons, this]
          show 1 + _ = _
          omega
      have hz2 : (Str.ofString "").length = 0 := rfl
      rw [hs, hz2]
      omega)
    unfold lets at e
    simp! [take_e, a12, s12, hw, hz, e, jn]
noncomputable def wordV (b : Bg) : Str := (word_ex b).choose
noncomputable def wordB (b : Bg) : Bg := (word_ex b).choose_spec.choose
theorem word_e (b : Bg) : m_zword [.ref (bagD b)] = .ok (.val (.str (wordV b))) [some (.ref (bagD (wordB b)))] := (word_ex b).choose_spec.choose_spec.1
theorem word_w (b : Bg) : IsW 8 (wordV b) := (word_ex b).choose_spec.choose_spec.2
/-! pieces of words -/
theorem cut_lo (w : Str) (k : Nat) (h : k ≤ w.length) : tl (cutS w none (some (k : Int))) = (tl w).take k := by
  unfold cutS
  rw [tl_mk, HT.sIx_none, HT.sIx_nat, List.drop_zero, Nat.sub_zero, Nat.min_eq_left h]
theorem cut_hi (w : Str) (k : Nat) (h : k ≤ w.length) : tl (cutS w (some (k : Int)) none) = (tl w).drop k := by
  unfold cutS
  rw [tl_mk, HT.sIx_none, HT.sIx_nat, Nat.min_eq_left h]
  refine List.take_of_length_le ?_
  rw [List.length_drop, ← len_tl]
  exact Nat.le_refl _
theorem put_ok {n : Nat} {w c : Str} {k : Nat} (h : IsW n w) (hk : k < w.length) (hc : IsL c) : IsW n (cutS w none (some (k : Int)) ++ c ++ cutS w (some ((k : Int) + 1)) none) := by
  obtain ⟨h1, h2, h3⟩ := h
  obtain ⟨q, rfl, q1, q2⟩ := hc
  have e1 : ((k : Int) + 1) = ((k + 1 : Nat) : Int) := by omega
  have et : tl (cutS w none (some (k : Int)) ++ ⟨#[q]⟩ ++ cutS w (some ((k : Int) + 1)) none) = (tl w).take k ++ [q] ++ (tl w).drop (k + 1) := by
    rw [tl_append, tl_append, cut_lo w k (by omega), e1, cut_hi w (k + 1) (by omega)]
  have hl := len_tl w
  have len : (cutS w none (some (k : Int)) ++ ⟨#[q]⟩ ++ cutS w (some ((k : Int) + 1)) none).length = w.length := by
    rw [len_tl, et]
    simp only [List.length_append, List.length_take, List.length_drop, List.length_cons, List.length_nil]
    omega
  refine ⟨by omega, by omega, fun c hc => ?_⟩
  rw [et] at hc
  rcases List.mem_append.mp hc with hc | hc
  · rcases List.mem_append.mp hc with hc | hc
    · exact h3 c (List.mem_of_mem_take hc)
    · have : c = q := by simpa using hc
      omega
  · exact h3 c (List.mem_of_mem_drop hc)
theorem ix_lets : ∀ k : Fin 26, sindexM (.str lets) [.str ⟨#[97 + k.val]⟩] = some (.int (k.val : Nat)) := by
  intro k
  have e : ∀ k : Fin 26, Builtin.Str.occurrences lets ⟨#[97 + k.val]⟩ 0 lets.length 1 = [k.val] := by decide +kernel
  show (match Builtin.Str.occurrences lets ⟨#[97 + k.val]⟩ 0 lets.length 1 with
    | i :: _ => some (PyData.int (i : Nat))
    | [] => none) = _
  rw [e]
theorem ix_let {c : Nat} (h1 : 97 ≤ c) (h2 : c ≤ 122) : sindexM (.str lets) [.str ⟨#[c]⟩] = some (.int ((c - 97 : Nat) : Int)) := by
  have := ix_lets ⟨c - 97, by omega⟩
  rw [show 97 + (c - 97) = c by omega] at this
  exact this
theorem sgn_at {n : Nat} {w : Str} (h : IsW n w) (hn : n ≤ 1000000) {i : Int} (h0 : 0 ≤ i) (h1 : i < w.length) : ∃ c, itF (.str w) (.int i) = some (.str ⟨#[c]⟩) ∧ 97 ≤ c ∧ c ≤ 122 := by
  have hl := len_tl w
  refine ⟨(tl w).getD i.toNat 0, ?_, h.2.2 _ (getD_mem (by omega))⟩
  rw [itF_s (by have := h.2.1; omega), atI_in (tl w) h0 (by omega) 0]
  rfl
theorem cut_take {α : Type} (xs : List α) {i : Int} (h : 0 ≤ i) : Dl.cutD xs none (some i) = xs.take i.toNat := by
  unfold Dl.cutD
  obtain ⟨k, rfl⟩ : ∃ k : Nat, i = (k : Int) := ⟨i.toNat, by omega⟩
  rw [HT.sIx_none, HT.sIx_nat, List.drop_zero, Nat.sub_zero, Int.toNat_natCast]
  by_cases hk : k ≤ xs.length
  · rw [Nat.min_eq_left hk]
  · rw [Nat.min_eq_right (by omega), List.take_of_length_le (Nat.le_refl _)]
    exact (List.take_of_length_le (by omega)).symm
theorem calls_ex (b : Bg) : ∃ (l : List Str) (b' : Bg), m_zcalls [.ref (bagD b)] = .ok (.val (.list (l.map .str))) [some (.ref (bagD b'))] ∧ (l.length = 2 ∨ l.length = 3) ∧ ∀ w ∈ l, IsW 8 w := by
  have hw := word_w b
  obtain ⟨w1, w2, w3⟩ := word_w b
  have u0 := takeV_nn (b := wordB b) (m := (wordV b).length) (by omega)
  have u1 := takeV_lt (b := wordB b) (m := (wordV b).length) (by omega)
  obtain ⟨c, ec, c1, c2⟩ := sgn_at hw (by omega) u0 u1
  have ei := ix_let c1 c2
  have b2 : ∃ b2, b2 = takeB (wordB b) (wordV b).length := ⟨_, rfl⟩
  obtain ⟨b2, eb2⟩ := b2
  have v0 := takeV_nn (b := b2) (m := 25) (by omega)
  have v1 := takeV_lt (b := b2) (m := 25) (by omega)
  have y0 : 0 ≤ ((((c - 97 : Nat) : Int) + 1) + takeV b2 25) % 26 := Int.emod_nonneg _ (by omega)
  have y1 : ((((c - 97 : Nat) : Int) + 1) + takeV b2 25) % 26 < 26 := Int.emod_lt_of_pos _ (by omega)
  have el := lets_at y0 y1
  have ll := let_ok y0 y1
  obtain ⟨k, ek⟩ : ∃ k : Nat, takeV (wordB b) (wordV b).length = (k : Int) := ⟨(takeV (wordB b) (wordV b).length).toNat, by omega⟩
  have hk : k < (wordV b).length := by omega
  have pw := put_ok hw hk ll
  have z0 := takeV_nn (b := takeB b2 25) (m := 2) (by omega)
  have z1 := takeV_lt (b := takeB b2 25) (m := 2) (by omega)
  have m1 : ((wordV b).length : Int) < 18446744073709551616 := by omega
  have m0 : (0 : Int) < ((wordV b).length : Int) := by omega
  have lw : (wordV b).length ≤ 1000000 := by omega
  have n1 : (cutS (wordV b) none (some (k : Int))).length + 1 + (cutS (wordV b) (some ((k : Int) + 1)) none).length ≤ 1000000 := by
    have := pw.2.1
    rw [len_add, len_add] at this
    have : (⟨#[(tl lets).getD (((((c - 97 : Nat) : Int) + 1) + takeV b2 25) % 26).toNat 0]⟩ : Str).length = 1 := rfl
    omega
  obtain ⟨L, eL⟩ : ∃ L, L = [wordV b, cutS (wordV b) none (some (k : Int)) ++ ⟨#[(tl lets).getD (((((c - 97 : Nat) : Int) + 1) + takeV b2 25) % 26).toNat 0]⟩ ++ cutS (wordV b) (some ((k : Int) + 1)) none, "load"] := ⟨_, rfl⟩
  have hL : ∀ w ∈ L, IsW 8 w := by
    subst eL
    intro w hw2
    rcases List.mem_cons.mp hw2 with rfl | hw2
    · exact hw
    · rcases List.mem_cons.mp hw2 with rfl | hw2
      · exact pw
      · rw [List.mem_singleton.mp hw2]
        decide +kernel
  have a1 : addF (.str (cutS (wordV b) none (some (k : Int)))) (.str ⟨#[(tl lets).getD (((((c - 97 : Nat) : Int) + 1) + takeV b2 25) % 26).toNat 0]⟩) = some (.str (cutS (wordV b) none (some (k : Int)) ++ ⟨#[(tl lets).getD (((((c - 97 : Nat) : Int) + 1) + takeV b2 25) % 26).toNat 0]⟩)) := addF_s (by
    show _ + 1 ≤ _
    omega)
  have a2 : addF (.str (cutS (wordV b) none (some (k : Int)) ++ ⟨#[(tl lets).getD (((((c - 97 : Nat) : Int) + 1) + takeV b2 25) % 26).toNat 0]⟩)) (.str (cutS (wordV b) (some ((k : Int) + 1)) none)) = some (.str (cutS (wordV b) none (some (k : Int)) ++ ⟨#[(tl lets).getD (((((c - 97 : Nat) : Int) + 1) + takeV b2 25) % 26).toNat 0]⟩ ++ cutS (wordV b) (some ((k : Int) + 1)) none)) := addF_s (by
    rw [len_add]
    show _ + 1 + _ ≤ _
    omega)
  refine ⟨L.take (2 + (takeV (takeB b2 25) 2).toNat), takeB (takeB b2 25) 2, ?_, ?_, fun w m => hL w (List.mem_of_mem_take m)⟩
  · unfold m_zcalls
    rw [start _ _ _ _ (by rfl)]
    unfold F_zcalls
    unfold lets at ei el
    have s1 := @sliceF_s (wordV b) none (some (k : Int)) lw
    have s2 := @sliceF_s (wordV b) (some ((k : Int) + 1)) none lw
    unfold lets at a1 a2
    rw [ek] at ec
    rw [sSeq_e, sPar_e (by decide)]
    simp! [take_e, word_e, lenF_s, lw, m0, m1, ek, ec, ei, ← eb2, el, s1, s2, a1, a2]
    rw [cut_take _ (by omega), show (2 + takeV (takeB b2 25) 2).toNat = 2 + (takeV (takeB b2 25) 2).toNat by omega, List.map_take, eL]
    rfl
  · subst eL
    rw [List.length_take]
    show min _ 3 = 2 ∨ min _ 3 = 3
    omega
noncomputable def callsV (b : Bg) : List Str := (calls_ex b).choose
noncomputable def callsB (b : Bg) : Bg := (calls_ex b).choose_spec.choose
theorem calls_e (b : Bg) : m_zcalls [.ref (bagD b)] = .ok (.val (.list ((callsV b).map .str))) [some (.ref (bagD (callsB b)))] := (calls_ex b).choose_spec.choose_spec.1
theorem calls_l (b : Bg) : (callsV b).length = 2 ∨ (callsV b).length = 3 := (calls_ex b).choose_spec.choose_spec.2.1
theorem calls_w (b : Bg) : ∀ w ∈ callsV b, IsW 8 w := (calls_ex b).choose_spec.choose_spec.2.2
/-! offers, bridges -/
structure Of where
  w : Str
  a : Int
  b : Int
structure Br where
  w : Str
  a : Int
  o : Int
  m : Int
def ofD (o : Of) : D := .tuple [.str o.w, .tuple [.int o.a, .int o.b]]
def brD (o : Br) : D := .tuple [.str o.w, .int o.a, .int o.o, .int o.m]
def sm (i : Int) : Prop := -1000 < i ∧ i < 1000
def ofOk (o : Of) : Prop := IsW 8 o.w ∧ sm o.a ∧ sm o.b
def brOk (o : Br) : Prop := IsW 8 o.w ∧ sm o.a ∧ sm o.o ∧ sm o.m
theorem bridge_ex (b : Bg) (l : List Str) (h1 : 1 ≤ l.length) (h2 : l.length ≤ 3) (hl : ∀ w ∈ l, IsW 8 w) : ∃ (r : Br) (b' : Bg), m_zbridge [.ref (bagD b), .val (.list (l.map .str))] = .ok (.val (brD r)) [some (.ref (bagD b')), none] ∧ brOk r := by
  have u0 := takeV_nn (b := b) (m := 10) (by omega)
  have u1 := takeV_lt (b := b) (m := 10) (by omega)
  have v0 := takeV_nn (b := takeB (takeB b 10) 9) (m := (l.length : Int)) (by omega)
  have v1 := takeV_lt (b := takeB (takeB b 10) 9) (m := (l.length : Int)) (by omega)
  have w0 := takeV_nn (b := takeB (takeB (takeB b 10) 9) (l.length : Int)) (m := 10) (by omega)
  have w1 := takeV_lt (b := takeB (takeB (takeB b 10) 9) (l.length : Int)) (m := 10) (by omega)
  have y0 : 0 ≤ ((takeV b 10 + 1) + takeV (takeB b 10) 9) % 10 := Int.emod_nonneg _ (by omega)
  have y1 : ((takeV b 10 + 1) + takeV (takeB b 10) 9) % 10 < 10 := Int.emod_lt_of_pos _ (by omega)
  have at_ := atI_map l PyData.str v0 (by omega) ""
  have m0 : (0 : Int) < (l.length : Int) := by omega
  have m1 : (l.length : Int) < 18446744073709551616 := by omega
  refine ⟨⟨l.getD (takeV (takeB (takeB b 10) 9) (l.length : Int)).toNat "", takeV b 10, ((takeV b 10 + 1) + takeV (takeB b 10) 9) % 10, takeV (takeB (takeB (takeB b 10) 9) (l.length : Int)) 10⟩, takeB (takeB (takeB (takeB b 10) 9) (l.length : Int)) 10, ?_, hl _ (getD_mem (by omega)), ⟨by dsimp only; omega, by dsimp only; omega⟩, ⟨by dsimp only; omega, by dsimp only; omega⟩, by dsimp only; omega, by dsimp only; omega⟩
  unfold m_zbridge
  rw [start _ _ _ _ (by rfl)]
  unfold F_zbridge
  simp! [take_e, m0, m1, at_, brD]
theorem near_ex (b : Bg) (o k : Of) (ho : ofOk o) (hk : ofOk k) : ∃ (r : Br) (b' : Bg), m_znear_bridge [.ref (bagD b), .val (ofD o), .val (ofD k)] = .ok (.val (brD r)) [some (.ref (bagD b')), none, none] ∧ brOk r := by
  obtain ⟨ow, oa, ob⟩ := o
  obtain ⟨kw, ka, kb⟩ := k
  obtain ⟨hw, ⟨a1, a2⟩, ⟨a3, a4⟩⟩ := ho
  obtain ⟨hv, ⟨b1, b2⟩, ⟨b3, b4⟩⟩ := hk
  dsimp only at hw a1 a2 a3 a4 b1 b2 b3 b4
  unfold m_znear_bridge ofD
  rw [start _ _ _ _ (by rfl)]
  unfold F_znear_bridge
  have q0 := takeV_nn (b := b) (m := 7) (by omega)
  have q1 := takeV_lt (b := b) (m := 7) (by omega)
  have way : takeV b 7 = 0 ∨ takeV b 7 = 1 ∨ takeV b 7 = 2 ∨ takeV b 7 = 3 ∨ takeV b 7 = 4 ∨ takeV b 7 = 5 ∨ takeV b 7 = 6 := by omega
  have t0 := takeV_nn (b := takeB b 7) (m := 3) (by omega)
  have t1 := takeV_lt (b := takeB b 7) (m := 3) (by omega)
  have k0 : 0 ≤ (ka + 1) % 10 := Int.emod_nonneg _ (by omega)
  have k1 : (ka + 1) % 10 < 10 := Int.emod_lt_of_pos _ (by omega)
  have o0 : 0 ≤ (oa + 1) % 10 := Int.emod_nonneg _ (by omega)
  have o1 : (oa + 1) % 10 < 10 := Int.emod_lt_of_pos _ (by omega)
  have p0 : 0 ≤ (oa + 2) % 10 := Int.emod_nonneg _ (by omega)
  have p1 : (oa + 2) % 10 < 10 := Int.emod_lt_of_pos _ (by omega)
  obtain ⟨x, hx, ex⟩ : ∃ x, sm x ∧ (if oa = ka then (ka + 1) % 10 else ka) = x := ⟨_, by
    unfold sm
    split <;> omega, rfl⟩
  have step : ∀ (F : Fs) (y : Int), seq1 F (sif1 (sSet 5 (fBin modF (fOf (fBin addF (pkVar 5) (fOf (fC (PyData.int 1))))) (fOf (fC (PyData.int 10))))) sNext (decide (oa = ka))
              [some (Cell.ref (bagD (takeB b 7))),
                some (Cell.val (PyData.tuple [PyData.str ow, PyData.tuple [PyData.int oa, PyData.int ob]])),
                some (Cell.val (PyData.tuple [PyData.str kw, PyData.tuple [PyData.int ka, PyData.int kb]])),
                some (Cell.val (PyData.str ow)), some (Cell.val (PyData.int oa)), some (Cell.val (PyData.int ka)),
                some (Cell.val (PyData.int kb)), some (Cell.val (PyData.int y)), none]) =
        F [some (Cell.ref (bagD (takeB b 7))),
                some (Cell.val (PyData.tuple [PyData.str ow, PyData.tuple [PyData.int oa, PyData.int ob]])),
                some (Cell.val (PyData.tuple [PyData.str kw, PyData.tuple [PyData.int ka, PyData.int kb]])),
                some (Cell.val (PyData.str ow)), some (Cell.val (PyData.int oa)), some (Cell.val (PyData.int x)),
                some (Cell.val (PyData.int kb)), some (Cell.val (PyData.int y)), none] := by
    intro F y
    by_cases h : oa = ka
    · rw [if_pos h] at ex
      simp! [Bag.dt h, ex]
    · rw [if_neg h] at ex
      simp! [Bag.df h]
      rw [ex]
  obtain ⟨x1, x2⟩ := hx
  rcases way with e | e | e | e | e | e | e
  · simp! [take_e, bTup_e, step, e]
    refine ⟨⟨_, _, _, _⟩, _, rfl, ?_⟩
    have mb := mx_b 0 (kb - 1)
    exact ⟨hw, ⟨a1, a2⟩, ⟨x1, x2⟩, by unfold sm; dsimp only; omega⟩
  · simp! [take_e, bTup_e, step, e, Int.reduceEq]
    refine ⟨⟨_, _, _, _⟩, _, rfl, ?_⟩
    exact ⟨hw, ⟨x1, x2⟩, ⟨a1, a2⟩, by dsimp only [sm]; omega⟩
  · simp! [take_e, bTup_e, step, e, Int.reduceEq]
    refine ⟨⟨_, _, _, _⟩, _, rfl, ?_⟩
    exact ⟨hw, ⟨a1, a2⟩, ⟨x1, x2⟩, ⟨b3, b4⟩⟩
  · by_cases h : (oa + 1) % 10 = x
    · simp! [take_e, bTup_e, step, e, Int.reduceEq, Bag.dt h]
      refine ⟨⟨_, _, _, _⟩, _, rfl, ?_⟩
      exact ⟨hw, by dsimp only [sm]; omega, by dsimp only [sm]; omega, by dsimp only [sm]; omega⟩
    · simp! [take_e, bTup_e, step, e, Int.reduceEq, Bag.df h]
      refine ⟨⟨_, _, _, _⟩, _, rfl, ?_⟩
      exact ⟨hw, by dsimp only [sm]; omega, by dsimp only [sm]; omega, by dsimp only [sm]; omega⟩
  · have hw0 := hw
    obtain ⟨w1, w2, w3⟩ := hw0
    have u0 := takeV_nn (b := takeB b 7) (m := (ow.length : Int)) (by omega)
    have u1 := takeV_lt (b := takeB b 7) (m := (ow.length : Int)) (by omega)
    obtain ⟨c, ec, c1, c2⟩ := sgn_at hw (by omega) u0 u1
    obtain ⟨n, en⟩ : ∃ n : Nat, takeV (takeB b 7) (ow.length : Int) = (n : Int) := ⟨(takeV (takeB b 7) (ow.length : Int)).toNat, by omega⟩
    have hn : n < ow.length := by omega
    have m1 : (ow.length : Int) < 18446744073709551616 := by omega
    have m0 : (0 : Int) < (ow.length : Int) := by omega
    have lw : ow.length ≤ 1000000 := by omega
    have s1 := @sliceF_s ow none (some (n : Int)) lw
    have s2 := @sliceF_s ow (some ((n : Int) + 1)) none lw
    rw [en] at ec
    have fin_ : ∀ q : Str, IsL q → addF (.str (cutS ow none (some (n : Int)))) (.str q) = some (.str (cutS ow none (some (n : Int)) ++ q)) ∧ addF (.str (cutS ow none (some (n : Int)) ++ q)) (.str (cutS ow (some ((n : Int) + 1)) none)) = some (.str (cutS ow none (some (n : Int)) ++ q ++ cutS ow (some ((n : Int) + 1)) none)) := fun q hq => by
      have h2 := (put_ok hw hn hq).2.1
      rw [len_add, len_add] at h2
      exact ⟨addF_s (by omega), addF_s (by rw [len_add]; omega)⟩
    by_cases h : (⟨#[c]⟩ : Str) = Str.ofString "a"
    · have az : itF (.str (Str.ofString "az")) (.int 1) = some (.str ⟨#[122]⟩) := by rfl
      obtain ⟨a1', a2'⟩ := fin_ ⟨#[122]⟩ ⟨122, rfl, by omega, by omega⟩
      simp! [take_e, bTup_e, step, e, Int.reduceEq, Bag.dt h, lenF_s, lw, m0, m1, en, ec, s1, s2, az, a1', a2']
      refine ⟨⟨_, _, _, _⟩, _, rfl, ?_⟩
      exact ⟨put_ok hw hn ⟨122, rfl, by omega, by omega⟩, ⟨a1, a2⟩, ⟨x1, x2⟩, by dsimp only [sm]; omega⟩
    · have az : itF (.str (Str.ofString "az")) (.int 0) = some (.str ⟨#[97]⟩) := by rfl
      obtain ⟨a1', a2'⟩ := fin_ ⟨#[97]⟩ ⟨97, rfl, by omega, by omega⟩
      simp! [take_e, bTup_e, step, e, Int.reduceEq, Bag.df h, lenF_s, lw, m0, m1, en, ec, s1, s2, az, a1', a2', Bool.false_eq_true]
      refine ⟨⟨_, _, _, _⟩, _, rfl, ?_⟩
      exact ⟨put_ok hw hn ⟨97, rfl, by omega, by omega⟩, ⟨a1, a2⟩, ⟨x1, x2⟩, by dsimp only [sm]; omega⟩
  · simp! [take_e, bTup_e, step, e, Int.reduceEq]
    refine ⟨⟨_, _, _, _⟩, _, rfl, ?_⟩
    have mb := mn_b 9 (kb + takeV (takeB b 7) 3)
    exact ⟨hw, ⟨a1, a2⟩, ⟨x1, x2⟩, by unfold sm; dsimp only; omega⟩
  · simp! [take_e, bTup_e, step, e, Int.reduceEq]
    refine ⟨⟨_, _, _, _⟩, _, rfl, ?_⟩
    have mb := mn_b 9 (kb + takeV (takeB b 7) 3)
    exact ⟨hw, ⟨a1, a2⟩, ⟨x1, x2⟩, by unfold sm; dsimp only; omega⟩
noncomputable def bridgeV (b : Bg) (l : List Str) (h1 : 1 ≤ l.length) (h2 : l.length ≤ 3) (hl : ∀ w ∈ l, IsW 8 w) : Br := (bridge_ex b l h1 h2 hl).choose
/-! what is due -/
theorem eq_pair (a b c d : Int) : eqF (.tuple [.int a, .int b]) (.tuple [.int c, .int d]) = some (.bool (decide (a = c) && decide (b = d))) := by
  unfold eqF okEq
  simp [PyData.plain, PyData.plainAll, PyData.depth, PyData.depthAll, PyData.eqv, PyData.eqvAll]
  rfl
theorem eq_three (x y : Str) (a b c d : Int) : eqF (.tuple [.str x, .int a, .int b]) (.tuple [.str y, .int c, .int d]) = some (.bool (decide (x = y) && (decide (a = c) && decide (b = d)))) := by
  unfold eqF okEq
  simp [PyData.plain, PyData.plainAll, PyData.depth, PyData.depthAll, PyData.eqv, PyData.eqvAll]
  rfl
/-- does the bridge do it -/
def does (o k : Of) (r : Br) : Bool := decide (r.w = k.w) && (decide (r.a = o.a) && decide (r.o = k.a)) && decide (k.b ≤ r.m)
def dueV (o k : Of) (l : List Br) : D :=
  if o.w = k.w then (if o.a = k.a ∧ k.b ≤ o.b then .str "same" else match l.find? (does o k) with
    | some r => brD r
    | none => .none) else .none
theorem cut3 (r : Br) : Dl.cutD [PyData.str r.w, PyData.int r.a, PyData.int r.o, PyData.int r.m] none (some 3) = [.str r.w, .int r.a, .int r.o] := cut_take _ (by omega)
theorem head_or (l : List D) (d : D) : atN (l ++ [d]) 0 = some (l.headD d) := by
  cases l <;> rfl
theorem due_comp (o k : Of) (l : List Br) (hl : l.length ≤ 1000) (hw : o.w = k.w) (x : Option Cell) :
    C_zdue_1 [some (.val (ofD o)), some (.val (ofD k)), some (.val (.list (l.map brD))), none, none] = .ok (.list ((l.filter (does o k)).map brD)) [some (.val (ofD o)), some (.val (ofD k)), some (.val (.list (l.map brD))), none, none] := by
  have c := comp_map (i := 4) (I := I_zdue_1) (T := T_zdue_1) (E := E_zdue_1) (δ := [some (.val (ofD o)), some (.val (ofD k)), some (.val (.list (l.map brD))), none, none]) (δ1 := [some (.val (ofD o)), some (.val (ofD k)), some (.val (.list (l.map brD))), none, none]) (ds := l.map brD)
    (fun d => match d with
      | .tuple [.str w, .int a, .int p, .int m] => does o k ⟨w, a, p, m⟩
      | _ => false) id
    (by
      unfold I_zdue_1
      simp! [])
    (Nat.lt_succ_self 4) rfl (by simp; omega) (fun d hd => by
      obtain ⟨r, _, rfl⟩ := List.mem_map.mp hd
      have c3 := cut3 r
      unfold T_zdue_1 E_zdue_1 ofD brD
      refine ⟨?_, fun _ => ?_⟩
      · by_cases h : (decide (r.w = k.w) && (decide (r.a = o.a) && decide (r.o = k.a))) = true
        · simp! [c3, eq_three, h, does, Bool.true_and]
        · simp! [c3, eq_three, Bool.eq_false_iff.mpr h, does, Bool.false_and]
      · simp! [id])
  unfold C_zdue_1
  rw [c, List.filter_map]
  simp only [List.map_map]
  congr 2
theorem find_head {α : Type} (p : α → Bool) (f : α → D) (d : D) : ∀ l : List α, ((l.filter p).map f).headD d = match l.find? p with | some r => f r | none => d
  | [] => rfl
  | x :: l => by
    by_cases h : p x = true
    · rw [List.filter_cons_of_pos h, List.find?_cons_of_pos h]
      rfl
    · rw [List.filter_cons_of_neg h, List.find?_cons_of_neg h]
      exact find_head p f d l
theorem due_e (o k : Of) (l : List Br) (hl : l.length ≤ 1000) : m_zdue [.val (ofD o), .val (ofD k), .val (.list (l.map brD))] = .ok (.val (dueV o k l)) [none, none, none] := by
  unfold m_zdue
  rw [start _ _ _ _ (by rfl)]
  unfold F_zdue dueV
  by_cases hw : o.w = k.w
  · have c := due_comp o k l hl hw none
    have hn : ((l.filter (does o k)).map brD).length + 1 ≤ 1000000 := by
      have := List.length_filter_le (does o k) l
      rw [List.length_map]
      omega
    have ap : addF (.list ((l.filter (does o k)).map brD)) (.list [.none]) = some (.list ((l.filter (does o k)).map brD ++ [.none])) := addF_l hn
    have hd := head_or ((l.filter (does o k)).map brD) .none
    rw [find_head] at hd
    unfold ofD at c ⊢
    by_cases ha : o.a = k.a
    · by_cases hb : k.b ≤ o.b
      · simp! [Bag.dt hw, Bag.dt ha, Bag.dt hb, if_pos hw, if_pos (And.intro ha hb), Bool.not_true]
      · simp! [Bag.dt hw, Bag.dt ha, Bag.df hb, if_pos hw, if_neg (fun z : o.a = k.a ∧ k.b ≤ o.b => hb z.2), Bool.not_true, c, ap, hd]
        cases l.find? (does o k) <;> rfl
    · simp! [Bag.dt hw, Bag.df ha, if_pos hw, if_neg (fun z : o.a = k.a ∧ k.b ≤ o.b => ha z.1), Bool.not_true, c, ap, hd]
      cases l.find? (does o k) <;> rfl
  · unfold ofD
    simp! [Bag.df hw, if_neg hw, Bool.not_false]
theorem lifts_e (o k : Of) (r : Br) : m_lifts [.val (brD r), .val (ofD o), .val (ofD k)] = .ok (.val (.bool (decide (r.w = o.w) && (decide (r.a = o.a) && decide (r.o = k.a)) && decide (k.b ≤ r.m)))) [none, none, none] := by
  unfold m_lifts
  rw [start _ _ _ _ (by rfl)]
  unfold F_lifts brD ofD
  have p1 := @sPar_e
  rw [sSeq_e]
  simp! [bTup_e, sPar_e (i := 7) (j := 8) (by decide)]
  by_cases h1 : r.w = o.w
  · by_cases h2 : (decide (r.a = o.a) && decide (r.o = k.a)) = true
    · simp! [Bag.dt h1, eq_pair, h2, Bool.true_and]
    · simp! [Bag.dt h1, eq_pair, Bool.eq_false_iff.mpr h2, Bool.true_and, Bool.false_and]
  · simp! [Bag.df h1, Bool.false_and]
theorem meets_loop (o k : Of) (hw : o.w = k.w) (x0 x1 x2 x3 x4 : Option Cell) : ∀ (l : List Br) (x : Option Cell), soft x = true → ∃ y, soft y = true ∧
    sForL (bName 5) Y_meets_1 (l.map brD) [some (.val (ofD o)), some (.val (ofD k)), x2, x3, x4, x] = (match l.find? (does o k) with
      | some r => .ret (.val (brD r)) [some (.val (ofD o)), some (.val (ofD k)), x2, x3, x4, y]
      | none => .next [some (.val (ofD o)), some (.val (ofD k)), x2, x3, x4, y])
  | [], x, hx => ⟨x, hx, rfl⟩
  | r :: l, x, hx => by
    have lf := lifts_e o k r
    have ed : (decide (r.w = o.w) && (decide (r.a = o.a) && decide (r.o = k.a)) && decide (k.b ≤ r.m)) = does o k r := by rw [hw]; rfl
    rw [ed] at lf
    rw [List.map_cons]
    by_cases h : does o k r = true
    · rw [List.find?_cons_of_pos h]
      rw [h] at lf
      refine ⟨some (.val (brD r)), rfl, ?_⟩
      rw [forL_cons]
      simp! [for1_e, hx]
      unfold Y_meets_1
      simp! [lf, for2_r]
    · rw [List.find?_cons_of_neg h]
      obtain ⟨y, hy, e⟩ := meets_loop o k hw x0 x1 x2 x3 x4 l (some (.val (brD r))) rfl
      refine ⟨y, hy, ?_⟩
      rw [Bool.eq_false_iff.mpr h] at lf
      rw [← e, forL_cons]
      simp! [for1_e, hx]
      unfold Y_meets_1
      simp! [lf, for2_n]
theorem meets_e (o k : Of) (l : List Br) : m_meets [.val (ofD o), .val (ofD k), .val (.list (l.map brD))] = .ok (.val (dueV o k l)) [none, none, none] := by
  unfold m_meets
  rw [start _ _ _ _ (by rfl)]
  unfold F_meets dueV
  by_cases hw : o.w = k.w
  · obtain ⟨y, hy, e⟩ := meets_loop o k hw none none (some (.val (.list (l.map brD)))) (some (.val (.tuple [.int o.a, .int o.b]))) (some (.val (.tuple [.int k.a, .int k.b]))) l none rfl
    unfold ofD at e ⊢
    by_cases ha : o.a = k.a
    · by_cases hb : k.b ≤ o.b
      · simp! [Bag.dt hw, Bag.dt ha, Bag.dt hb, if_pos hw, if_pos (And.intro ha hb), Bool.not_true, sPar_e (i := 3) (j := 4) (by decide)]
      · simp! [Bag.dt hw, Bag.dt ha, Bag.df hb, if_pos hw, if_neg (fun z : o.a = k.a ∧ k.b ≤ o.b => hb z.2), Bool.not_true, sPar_e (i := 3) (j := 4) (by decide)]
        unfold L_meets_1 I_meets_1
        simp! [e]
        cases l.find? (does o k) <;> simp! []
    · simp! [Bag.dt hw, Bag.df ha, if_pos hw, if_neg (fun z : o.a = k.a ∧ k.b ≤ o.b => ha z.1), Bool.not_true, sPar_e (i := 3) (j := 4) (by decide)]
      unfold L_meets_1 I_meets_1
      simp! [e]
      cases l.find? (does o k) <;> simp! []
  · unfold ofD
    simp! [Bag.df hw, if_neg hw, Bool.not_false]
theorem alike_e (d : D) (g : good d = true) (h : d.depth ≤ 60) (s : szB d ≤ 1000000) : m_zalike [.val d, .val d] = .ok (.val (.bool true)) [none, none] := by
  unfold m_zalike
  rw [start _ _ _ _ (by rfl)]
  unfold F_zalike
  have e := eqF_self (good_plain g).1 h
  have r := reprF_ok g h s
  simp! [e, r]
theorem br_good {r : Br} (h : brOk r) : good (brD r) = true ∧ (brD r).depth ≤ 60 ∧ szB (brD r) ≤ 7000 := by
  obtain ⟨hw, ⟨a1, a2⟩, ⟨b1, b2⟩, ⟨c1, c2⟩⟩ := h
  have lg : ∀ i : Int, -1000 < i → i < 1000 → i.natAbs.log2 < 1920 := fun i h1 h2 => by
    have : i.natAbs < 2 ^ 10 := by omega
    exact Nat.lt_trans (log_lt this (by omega)) (by omega)
  have gw := hw.good
  have lw := hw.2.1
  unfold brD
  refine ⟨?_, ?_, ?_⟩
  · simp only [good, goodAll, gw, lg _ a1 a2, lg _ b1 b2, lg _ c1 c2, decide_true, Bool.and_self] at gw ⊢
    simpa using gw
  · simp [PyData.depth, PyData.depthAll]
  · simp only [szB, szAll]
    omega
theorem due_good (o k : Of) (l : List Br) (h : ∀ r ∈ l, brOk r) : good (dueV o k l) = true ∧ (dueV o k l).depth ≤ 60 ∧ szB (dueV o k l) ≤ 7000 := by
  unfold dueV
  split
  · split
    · exact ⟨by decide +kernel, by simp [PyData.depth], by decide +kernel⟩
    · cases e : l.find? (does o k) with
      | none => exact ⟨rfl, by simp [PyData.depth], by simp [szB]⟩
      | some r => exact br_good (h r (List.mem_of_find?_eq_some e))
  · exact ⟨rfl, by simp [PyData.depth], by simp [szB]⟩
theorem depth_all (n : Nat) : ∀ ds : List D, (∀ d ∈ ds, d.depth ≤ n) → PyData.depthAll ds ≤ n
  | [], _ => by simp [PyData.depthAll]
  | d :: ds, h => by
    simp only [PyData.depthAll]
    exact Nat.max_le.mpr ⟨h d List.mem_cons_self, depth_all n ds fun x m => h x (List.mem_cons_of_mem _ m)⟩
theorem plain_all : ∀ ds : List D, (∀ d ∈ ds, d.plain = true) → PyData.plainAll ds = true
  | [], _ => by simp [PyData.plainAll]
  | d :: ds, h => by
    simp only [PyData.plainAll, h d List.mem_cons_self, plain_all ds fun x m => h x (List.mem_cons_of_mem _ m), Bool.and_self]
theorem right_e (o k : Of) (l : List Br) (hl : l.length ≤ 1000) (h : ∀ r ∈ l, brOk r) : m_zright [.val (ofD o), .val (ofD k), .val (.list (l.map brD))] = .ok (.val (.bool true)) [none, none, none] := by
  unfold m_zright
  rw [start _ _ _ _ (by rfl)]
  unfold F_zright
  obtain ⟨g1, g2, g3⟩ := due_good o k l h
  have al := alike_e (dueV o k l) g1 g2 (by omega)
  have du := due_e o k l hl
  have me := meets_e o k l
  have eq_ : eqF (.list (l.map brD)) (.list (l.map brD)) = some (.bool true) := eqF_self (by
    simp only [PyData.plain]
    exact plain_all _ fun d m => by
      obtain ⟨r, mr, rfl⟩ := List.mem_map.mp m
      exact (good_plain (br_good (h r mr)).1).1) (by
    simp only [PyData.depth]
    have := depth_all 59 (l.map brD) fun d m => by
      obtain ⟨r, mr, rfl⟩ := List.mem_map.mp m
      unfold brD
      simp [PyData.depth, PyData.depthAll]
    omega)
  simp! [du, me, al, eq_]
/-! the law -/
noncomputable def nearV (b : Bg) (o k : Of) (ho : ofOk o) (hk : ofOk k) : Br := (near_ex b o k ho hk).choose
/-- the frame: what is known, and what is not -/
def Fr (cl : List Str) (s : D) (δ : DEnv) : Prop := ∃ (b : Bg) (x3 x4 x5 x6 x7 x8 x9 : Option Cell), δ = [some (.val s), some (.own (bagD b)), some (.val (.list (cl.map .str))), x3, x4, x5, x6, x7, x8, x9] ∧ soft x3 = true ∧ soft x4 = true ∧ soft x5 = true ∧ soft x6 = true ∧ soft x7 = true ∧ soft x8 = true ∧ soft x9 = true
theorem loop1 (cl : List Str) (hc : cl.length = 2 ∨ cl.length = 3) (hw : ∀ w ∈ cl, IsW 8 w) (s : D) (o k : Of) (ho : ofOk o) (hk : ofOk k) (x3 x7 x8 x9 : Option Cell) (b : Bg) (h7 : soft x7 = true) (h8 : soft x8 = true) :
    ∃ (b' : Bg) (l : List Br) (y7 y8 : Option Cell), l.length ≤ 8 ∧ (∀ r ∈ l, brOk r) ∧ soft y7 = true ∧ soft y8 = true ∧
      L_law_1 [some (.val s), some (.own (bagD b)), some (.val (.list (cl.map .str))), x3, some (.val (ofD o)), some (.val (ofD k)), some (.own (.list [])), x7, x8, x9] =
        .next [some (.val s), some (.own (bagD b')), some (.val (.list (cl.map .str))), x3, some (.val (ofD o)), some (.val (ofD k)), some (.own (.list (l.map brD))), y7, y8, x9] := by
  have v0 := takeV_nn (b := b) (m := 9) (by omega)
  have v1 := takeV_lt (b := b) (m := 9) (by omega)
  unfold L_law_1 I_law_1
  simp! [take_e]
  rw [rng1_e (by omega) (by omega)]
  simp! []
  obtain ⟨δ', e, b', l, y7, y8, e2, hl, hr, s7, s8⟩ := forL_at (B := bName 7) (F := Y_law_1) (fun i δ => ∃ (b' : Bg) (l : List Br) (y7 y8 : Option Cell), δ = [some (.val s), some (.own (bagD b')), some (.val (.list (cl.map .str))), x3, some (.val (ofD o)), some (.val (ofD k)), some (.own (.list (l.map brD))), y7, y8, x9] ∧ l.length = i ∧ (∀ r ∈ l, brOk r) ∧ soft y7 = true ∧ soft y8 = true)
    (rngL 0 (takeV b 9).toNat) [some (.val s), some (.own (bagD (takeB b 9))), some (.val (.list (cl.map .str))), x3, some (.val (ofD o)), some (.val (ofD k)), some (.own (.list [])), x7, x8, x9] ⟨_, [], _, _, rfl, rfl, fun _ h => (by cases h), h7, h8⟩
    (fun i d hd δ ⟨b1, l, y7, y8, e, hl, hr, s7, s8⟩ => by
      subst e
      obtain ⟨r1, b2, e1, g1⟩ := bridge_ex b1 cl (by omega) (by omega) hw
      obtain ⟨r2, b3, e2, g2⟩ := near_ex b2 o k ho hk
      have u0 := takeV_nn (b := b3) (m := 2) (by omega)
      have u1 := takeV_lt (b := b3) (m := 2) (by omega)
      have hi : i < 9 := by
        have := (rngL_get hd).1
        omega
      have ll : l.length < 1000000 := by omega
      have cl1 : (cl.map PyData.str).length = cl.length := List.length_map _
      refine ⟨_, by simp! [s7]; rfl, ?_⟩
      unfold Y_law_1
      rcases (by omega : takeV b3 2 = 0 ∨ takeV b3 2 = 1) with z | z
      · refine ⟨[some (.val s), some (.own (bagD (takeB b3 2))), some (.val (.list (cl.map .str))), x3, some (.val (ofD o)), some (.val (ofD k)), some (.own (.list ((l ++ [r1]).map brD))), some (.val d), some (.val (brD r1)), x9], .inl ?_, _, l ++ [r1], _, _, rfl, by simp [hl], fun r m => ?_, rfl, rfl⟩
        · simp! [e1, e2, take_e, z, s8]
          rw [app2_e _ (by rw [List.length_map]; exact ll)]
          simp! [List.map_append]
        · rcases List.mem_append.mp m with m | m
          · exact hr r m
          · rw [List.mem_singleton.mp m]
            exact g1
      · refine ⟨[some (.val s), some (.own (bagD (takeB b3 2))), some (.val (.list (cl.map .str))), x3, some (.val (ofD o)), some (.val (ofD k)), some (.own (.list ((l ++ [r2]).map brD))), some (.val d), some (.val (brD r2)), x9], .inl ?_, _, l ++ [r2], _, _, rfl, by simp [hl], fun r m => ?_, rfl, rfl⟩
        · simp! [e1, e2, take_e, z, s8]
          rw [app2_e _ (by rw [List.length_map]; exact ll)]
          simp! [List.map_append]
        · rcases List.mem_append.mp m with m | m
          · exact hr r m
          · rw [List.mem_singleton.mp m]
            exact g2)
  subst e2
  have len : (rngL 0 (takeV b 9).toNat).length = (takeV b 9).toNat := by simp [rngL]
  exact ⟨b', l, y7, y8, by omega, hr, s7, s8, e⟩
theorem loop2 (s c2 c1 : D) (o k : Of) (l : List Br) (hl : l.length ≤ 1000) (h : ∀ r ∈ l, brOk r) (x1 x2 x3 x7 x8 x9 : Option Cell) (h8 : soft x8 = true) (h9 : soft x9 = true) :
    L_law_2 [some (.val s), x1, x2, x3, some (.val (ofD o)), some (.val (ofD k)), some (.own (.list (l.map brD))), x7, x8, x9] =
      .next [some (.val s), x1, x2, x3, some (.val (ofD o)), some (.val (ofD k)), some (.val (.list (l.map brD))), x7, some (.val (ofD o)), some (.val (ofD k))] := by
  have a1 := right_e o k l hl h
  have a2 := right_e k o l hl h
  have r1 := right_e o k l.reverse (by simpa using hl) (fun r m => h r (by simpa using m))
  have r2 := right_e k o l.reverse (by simpa using hl) (fun r m => h r (by simpa using m))
  rw [List.map_reverse] at r1 r2
  unfold L_law_2 I_law_2 Y_law_2
  simp! [forL_cons, forL_nil, bTup_e, h8, h9, for1_e, a1, r1, a2, r2, Bool.not_true, for2_n]
theorem law_true (ns : List Int) (hn : ns.length ≤ 63) (hb : ∀ z ∈ ns, Builtin.Int.intBits z ≤ 1048576) : m_law [.val (scriptD ns)] = .ok (.val (.bool true)) [none] := by
  have be := Bag.bag_e ns hn
  rw [← bag_m] at be
  have hc := calls_l (Bag.bag0 ns)
  have hw := calls_w (Bag.bag0 ns)
  have ce := calls_e (Bag.bag0 ns)
  generalize callsV (Bag.bag0 ns) = cl at hc hw ce
  generalize hs : scriptD ns = s at be
  unfold m_law
  rw [start _ _ _ _ (by rfl)]
  unfold F_law
  simp! [be, ce]
  unfold L_law_3 I_law_3
  simp! []
  rw [rng1_e (by omega) (by omega)]
  simp! []
  obtain ⟨δ', e, b', x3, x4, x5, x6, x7, x8, x9, e2, _⟩ := forL_inv (B := bName 3) (F := Y_law_3) (Fr cl s) (rngL 0 16) [some (.val s), some (.own (bagD (callsB (Bag.bag0 ns)))), some (.val (.list (cl.map .str))), none, none, none, none, none, none, none]
    ⟨_, _, _, _, _, _, _, _, rfl, rfl, rfl, rfl, rfl, rfl, rfl, rfl⟩ (fun d _ δ ⟨b, x3, x4, x5, x6, x7, x8, x9, e, s3, s4, s5, s6, s7, s8, s9⟩ => by
      subst e
      refine ⟨_, by simp! [s3]; rfl, ?_⟩
      have m0 : (0 : Int) < (cl.length : Int) := by omega
      have m1 : (cl.length : Int) < 18446744073709551616 := by omega
      have v0 := takeV_nn (b := b) (m := (cl.length : Int)) (by omega)
      have v1 := takeV_lt (b := b) (m := (cl.length : Int)) (by omega)
      have at1 := atI_map cl PyData.str v0 (by omega) ""
      obtain ⟨b1, eb1⟩ : ∃ b1, b1 = takeB b (cl.length : Int) := ⟨_, rfl⟩
      have ve := version_e b1
      have p0 := takeV_nn (b := b1) (m := 10) (by omega)
      have p1 := takeV_lt (b := b1) (m := 10) (by omega)
      have q0 := takeV_nn (b := takeB b1 10) (m := 10) (by omega)
      have q1 := takeV_lt (b := takeB b1 10) (m := 10) (by omega)
      obtain ⟨o, eo⟩ : ∃ o : Of, o = ⟨cl.getD (takeV b (cl.length : Int)).toNat "", takeV b1 10, takeV (takeB b1 10) 10⟩ := ⟨_, rfl⟩
      have ho : ofOk o := by
        rw [eo]
        exact ⟨hw _ (getD_mem (by omega)), ⟨by dsimp only; omega, by dsimp only; omega⟩, by dsimp only; omega, by dsimp only; omega⟩
      obtain ⟨b2, eb2⟩ : ∃ b2, b2 = takeB (takeB b1 10) 10 := ⟨_, rfl⟩
      have w0 := takeV_nn (b := b2) (m := (cl.length : Int)) (by omega)
      have w1 := takeV_lt (b := b2) (m := (cl.length : Int)) (by omega)
      have at2 := atI_map cl PyData.str w0 (by omega) ""
      obtain ⟨b3, eb3⟩ : ∃ b3, b3 = takeB b2 (cl.length : Int) := ⟨_, rfl⟩
      obtain ⟨b4, eb4⟩ : ∃ b4, b4 = takeB b3 4 := ⟨_, rfl⟩
      have ve2 := version_e b4
      have p2 := takeV_nn (b := b4) (m := 10) (by omega)
      have p3 := takeV_lt (b := b4) (m := 10) (by omega)
      have q2 := takeV_nn (b := takeB b4 10) (m := 10) (by omega)
      have q3 := takeV_lt (b := takeB b4 10) (m := 10) (by omega)
      obtain ⟨b5, eb5⟩ : ∃ b5, b5 = takeB (takeB b4 10) 10 := ⟨_, rfl⟩
      rw [← eb2] at ve
      rw [← eb5] at ve2
      -- the ask's call
      obtain ⟨kw, hkw, ekw⟩ : ∃ kw : Str, IsW 8 kw ∧ kw = if takeV b3 4 = 0 then cl.getD (takeV b2 (cl.length : Int)).toNat "" else cl.getD (takeV b (cl.length : Int)).toNat "" := ⟨_, by
        split
        · exact hw _ (getD_mem (by omega))
        · exact hw _ (getD_mem (by omega)), rfl⟩
      have pick : atI [PyData.str (cl.getD (takeV b (cl.length : Int)).toNat ""), PyData.str (cl.getD (takeV b2 (cl.length : Int)).toNat "")] (if decide (takeV b3 4 = 0) = true then 1 else 0) = some (.str kw) := by
        rw [ekw]
        by_cases z : takeV b3 4 = 0
        · rw [if_pos z, Bag.dt z]
          rfl
        · rw [if_neg z, Bag.df z]
          rfl
      have t0 := takeV_nn (b := takeB b5 3) (m := 3) (by omega)
      have t1 := takeV_lt (b := takeB b5 3) (m := 3) (by omega)
      have go : ∀ (b6 : Bg) (k : Of), ofOk k → ∃ δ2, (seq1 (sSeq (sSetO 6 (fLst fNil)) (sSeq L_law_1 L_law_2)) (.next [some (.val s), some (.own (bagD b6)), some (.val (.list (cl.map .str))), some (.val d), some (.val (ofD o)), some (.val (ofD k)), x6, x7, x8, x9])) = .next δ2 ∧ Fr cl s δ2 := fun b6 k hk => by
        obtain ⟨b7, l, y7, y8, hl, hr, s7', s8', e1⟩ := loop1 cl hc hw s o k ho hk (some (.val d)) x7 x8 x9 b6 s7 s8
        have e2 := loop2 s (.none) .none o k l (by omega) hr (some (.own (bagD b7))) (some (.val (.list (cl.map .str)))) (some (.val d)) y7 y8 x9 s8' s9
        refine ⟨_, by simp! [s6, e1, e2]; rfl, b7, _, _, _, _, _, _, _, rfl, rfl, rfl, rfl, rfl, s7', rfl, rfl⟩
      have gg : ∀ (F : Fs) δ, (∃ δ2, F δ = .next δ2 ∧ Fr cl s δ2) → ∃ δ2, (F δ = .next δ2 ∨ F δ = .cont δ2) ∧ Fr cl s δ2 := fun F δ ⟨δ2, a, c⟩ => ⟨δ2, .inl a, c⟩
      apply gg
      unfold Y_law_3
      unfold ofD at go
      subst eo
      by_cases z3 : takeV b5 3 = 0
      · obtain ⟨δ2, e6, h6⟩ := go (takeB (takeB b5 3) 3) ⟨kw, takeV b1 10, mn 9 (mx 0 (takeV (takeB b1 10) 10 + takeV (takeB b5 3) 3 - 1))⟩ ⟨hkw, ⟨by dsimp only; omega, by dsimp only; omega⟩, by
          have a1 := mx_b 0 (takeV (takeB b1 10) 10 + takeV (takeB b5 3) 3 - 1)
          have a2 := mn_b 9 (mx 0 (takeV (takeB b1 10) 10 + takeV (takeB b5 3) 3 - 1))
          exact ⟨by dsimp only; omega, by dsimp only; omega⟩⟩
        refine ⟨δ2, ?_, h6⟩
        rw [← e6]
        simp! [take_e, m0, m1, at1, at2, ← eb1, ve, ← eb3, ← eb4, ve2, pick, z3, s4, s5]
      · obtain ⟨δ2, e6, h6⟩ := go (takeB b5 3) ⟨kw, takeV b4 10, takeV (takeB b4 10) 10⟩ ⟨hkw, ⟨by dsimp only; omega, by dsimp only; omega⟩, by dsimp only; omega, by dsimp only; omega⟩
        refine ⟨δ2, ?_, h6⟩
        rw [← e6]
        simp! [take_e, m0, m1, at1, at2, ← eb1, ve, ← eb3, ← eb4, ve2, pick, Bag.df z3, s4, s5])
  subst e2
  simp! [e]
end k13

set_option Elab.async false
set_option linter.all false
set_option maxRecDepth 100000
set_option maxHeartbeats 0
namespace k14
open PySem PySem.Spec PyProof.Rows L2 Dl
/-! lifts: 0 bridge 1 offer 2 ask 3 call 4 major 5 other 6 minor 7 offered 8 wanted -/
def F_lifts : Fs :=
  (sSeq (sAsg (rdVar 0) (bTup 4 (bCons (bName 3) (bCons (bName 4) (bCons (bName 5) (bCons (bName 6) bNil))))))
  (sSeq (sPar 7 8 (fCons (fBin itF (pkVar 1) (fOf (fC (.int 1)))) (fCons (fBin itF (pkVar 2) (fOf (fC (.int 1)))) fNil)))
  (sRet (fAndV (fBin eqF (pkVar 3) (fOf (fBin itF (pkVar 1) (fOf (fC (.int 0)))))) (fAndV (fBin eqF (fOf (fTup (fCons (rdVar 4) (fCons (rdVar 5) fNil)))) (fOf (fTup (fCons (fBin itF (pkVar 7) (fOf (fC (.int 0)))) (fCons (fBin itF (pkVar 8) (fOf (fC (.int 0)))) fNil))))) (fBin leF (fOf (fBin itF (pkVar 8) (fOf (fC (.int 1))))) (pkVar 6)))))))
def m_lifts : Mir := mir 3 9 F_lifts
/-! zbag: 0 zscript 1 zcell -/
def I_zbag_1 : Fe (List D) := (iAny (fSlice (pkVar 0) ptNone (ptSome (fC (.int 63)))))
def E_zbag_1 : Fe D := (fCall absF (lCons (pkVar 1) lNil))
def C_zbag_1 : Fe D := (fComp [1] I_zbag_1 (bName 1) fYes E_zbag_1)
def F_zbag : Fs :=
  (sRetO (fLst (fCons (fC (.int 0)) (fCons (fC (.int 1234567891)) (fCons (fC (.int 0)) (fCons C_zbag_1 fNil))))))
def m_zbag : Mir := mir 1 2 F_zbag
/-! ztake: 0 zbag_here 1 zmany 2 zcell 3 zvalue 4 zfirst 5 zsecond -/
def F_ztake : Fs :=
  (sSeq (sIf (fB (fBin eqF (fOf (fBin itF (pkVar 0) (fOf (fC (.int 0))))) (fOf (fC (.int 0))))) (sSeq (sSet 2 (fC (.int 0)))
  (sSeq (sIf (fB (fBin ltF (fOf (fBin itF (pkVar 0) (fOf (fC (.int 2))))) (fOf (fCall lenF (lCons (fOf (fBin itF (pkVar 0) (fOf (fC (.int 3))))) lNil))))) (sSet 2 (fBin itF (fOf (fBin itF (pkVar 0) (fOf (fC (.int 3))))) (fOf (fBin itF (pkVar 0) (fOf (fC (.int 2))))))) sNext)
  (sSeq (sAugI 0 (fun a b => a + b) (fC (.int 2)) (fC (.int 1)))
  (sSeq (sIf (fB (fBin geF (pkVar 2) (fOf (fC (.int 1000000000000000000))))) (sItem 0 (fC (.int 0)) (rdVar 2)) sNext)
  (sItem 0 (fC (.int 1)) (fBin modF (fOf (fBin addF (fOf (fBin addF (fOf (fBin mulF (fOf (fBin itF (pkVar 0) (fOf (fC (.int 1))))) (fOf (fC (.int 48271))))) (fOf (fBin modF (pkVar 2) (fOf (fC (.int 2147483647))))))) (fOf (fBin mulF (fOf (fC (.int 7919))) (fOf (fBin itF (pkVar 0) (fOf (fC (.int 2))))))))) (fOf (fC (.int 2147483647))))))))) sNext)
  (sSeq (sIf (fB (fBin gtF (fOf (fBin itF (pkVar 0) (fOf (fC (.int 0))))) (fOf (fC (.int 0))))) (sSeq (sSet 3 (fBin modF (fOf (fBin itF (pkVar 0) (fOf (fC (.int 0))))) (pkVar 1)))
  (sSeq (sItem 0 (fC (.int 0)) (fBin divF (fOf (fBin itF (pkVar 0) (fOf (fC (.int 0))))) (pkVar 1)))
  (sRetV 3))) sNext)
  (sSeq (sSet 4 (fBin modF (fOf (fBin mulF (fOf (fBin addF (fOf (fBin itF (pkVar 0) (fOf (fC (.int 1))))) (fOf (fC (.int 1))))) (fOf (fC (.int 39373))))) (fOf (fC (.int 1000000007)))))
  (sSeq (sSet 5 (fBin modF (fOf (fBin mulF (fOf (fBin modF (fOf (fBin mulF (pkVar 4) (pkVar 4))) (fOf (fC (.int 998244353))))) (fOf (fC (.int 30011))))) (fOf (fC (.int 998244353)))))
  (sSeq (sIf (fB (fBin gtF (pkVar 1) (fOf (fC (.int 1000000))))) (sRet (fBin modF (fOf (fBin addF (fOf (fBin mulF (pkVar 5) (fOf (fC (.int 1000000007))))) (pkVar 4))) (pkVar 1))) sNext)
  (sRet (fBin modF (fOf (fBin divF (pkVar 5) (fOf (fC (.int 7))))) (pkVar 1))))))))
def m_ztake : Mir := mir 2 6 F_ztake
/-! zfar: 0 zoffer 1 zmajor 2 zbridges 3 zsome 4 zone -/
def I_zfar_1 : Fe (List D) := (iAny (rdVar 2))
def E_zfar_1 : Fe D := (fBin itF (pkVar 4) (fOf (fC (.int 3))))
def T_zfar_1 : Fe Bool := (fB (fBin eqF (fOf (fSlice (pkVar 4) ptNone (ptSome (fC (.int 3))))) (fOf (fTup (fCons (fBin itF (pkVar 0) (fOf (fC (.int 0)))) (fCons (fBin itF (fOf (fBin itF (pkVar 0) (fOf (fC (.int 1))))) (fOf (fC (.int 0)))) (fCons (rdVar 1) fNil)))))))
def C_zfar_1 : Fe D := (fComp [4] I_zfar_1 (bName 4) T_zfar_1 E_zfar_1)
def F_zfar : Fs :=
  (sSeq (sIf (fB (fBin eqF (fOf (fBin itF (fOf (fBin itF (pkVar 0) (fOf (fC (.int 1))))) (fOf (fC (.int 0))))) (pkVar 1))) (sRet (fBin itF (fOf (fBin itF (pkVar 0) (fOf (fC (.int 1))))) (fOf (fC (.int 1))))) sNext)
  (sSeq (sSetO 3 C_zfar_1)
  (sRet (fCallK maxLD (lCons (pkVar 3) lNil) (lOne (fOf (fBin subF (fOf (fC (.int 0))) (fOf (fC (.int 1))))))))))
def m_zfar : Mir := mir 3 5 F_zfar
/-! meets: 0 offer 1 ask 2 bridges 3 offered 4 wanted 5 bridge -/
def I_meets_1 : Fe (List D) := (iAny (rdVar 2))
def Y_meets_1 : Fs := (sIf (fB (fV m_lifts (fCons (rdVar 5) (fCons (rdVar 0) (fCons (rdVar 1) fNil))))) (sRetV 5) sNext)
def L_meets_1 : Fs := (sFor I_meets_1 (bName 5) Y_meets_1)
def F_meets : Fs :=
  (sSeq (sIf (fB (fBin neF (fOf (fBin itF (pkVar 0) (fOf (fC (.int 0))))) (fOf (fBin itF (pkVar 1) (fOf (fC (.int 0))))))) (sRet (fC .none)) sNext)
  (sSeq (sPar 3 4 (fCons (fBin itF (pkVar 0) (fOf (fC (.int 1)))) (fCons (fBin itF (pkVar 1) (fOf (fC (.int 1)))) fNil)))
  (sSeq (sIf (fAnd (fB (fBin eqF (fOf (fBin itF (pkVar 3) (fOf (fC (.int 0))))) (fOf (fBin itF (pkVar 4) (fOf (fC (.int 0))))))) (fB (fBin geF (fOf (fBin itF (pkVar 3) (fOf (fC (.int 1))))) (fOf (fBin itF (pkVar 4) (fOf (fC (.int 1)))))))) (sRet (fC (.str "same"))) sNext)
  (sSeq L_meets_1
  (sRet (fC .none))))))
def m_meets : Mir := mir 3 6 F_meets
/-! zword: 0 zbag_here 1 zsome 2 zletters 3 zk -/
def I_zword_1 : Fe (List D) := (iRng1 (fBin addF (fOf (fC (.int 1))) (fOf (fR m_ztake 0 0 toVal (apHead 0 (fCons (fC (.int 8)) fNil))))))
def E_zword_1 : Fe D := (fBin itF (pkVar 2) (fOf (fR m_ztake 0 0 toVal (apHead 0 (fCons (fC (.int 26)) fNil)))))
def C_zword_1 : Fe D := (fComp [3] I_zword_1 (bName 3) fYes E_zword_1)
def F_zword : Fs :=
  (sSeq (sSet 1 (fC (.str "offer ask hook on right default key own steps do stock make kept anew emit get put read send")))
  (sSeq (sSet 1 (fMeth "str" splitM (fOf (fBin addF (pkVar 1) (fOf (fC (.str " refuse pass back a b ab zzzzzzzz"))))) (lCons (fOf (fC (.str " "))) lNil)))
  (sSeq (sIf (fB (fBin eqF (fOf (fR m_ztake 0 0 toVal (apHead 0 (fCons (fC (.int 3)) fNil)))) (fOf (fC (.int 0))))) (sRet (fBin itF (pkVar 1) (fOf (fR m_ztake 0 0 toVal (apHead 0 (fCons (fCall lenF (lCons (pkVar 1) lNil)) fNil)))))) sNext)
  (sSeq (sSet 2 (fC (.str "abcdefghijklmnopqrstuvwxyz")))
  (sRet (fMeth "str" joinM (fOf (fC (.str ""))) (lCons (fOf C_zword_1) lNil)))))))
def m_zword : Mir := mir 1 4 F_zword
/-! zversion: 0 zbag_here -/
def F_zversion : Fs :=
  (sRet (fTup (fCons (fR m_ztake 0 0 toVal (apHead 0 (fCons (fC (.int 10)) fNil))) (fCons (fR m_ztake 0 0 toVal (apHead 0 (fCons (fC (.int 10)) fNil))) fNil))))
def m_zversion : Mir := mir 1 1 F_zversion
/-! zbridge: 0 zbag_here 1 zcalls_here 2 zmajor 3 zother -/
def F_zbridge : Fs :=
  (sSeq (sSet 2 (fR m_ztake 0 0 toVal (apHead 0 (fCons (fC (.int 10)) fNil))))
  (sSeq (sSet 3 (fBin modF (fOf (fBin addF (fOf (fBin addF (pkVar 2) (fOf (fC (.int 1))))) (fOf (fR m_ztake 0 0 toVal (apHead 0 (fCons (fC (.int 9)) fNil)))))) (fOf (fC (.int 10)))))
  (sRet (fTup (fCons (fBin itF (pkVar 1) (fOf (fR m_ztake 0 0 toVal (apHead 0 (fCons (fCall lenF (lCons (pkVar 1) lNil)) fNil))))) (fCons (rdVar 2) (fCons (rdVar 3) (fCons (fR m_ztake 0 0 toVal (apHead 0 (fCons (fC (.int 10)) fNil))) fNil))))))))
def m_zbridge : Mir := mir 2 4 F_zbridge
/-! zcalls: 0 zbag_here 1 zword_here 2 zletters 3 zat 4 zletter -/
def F_zcalls : Fs :=
  (sSeq (sPar 1 2 (fCons (fR m_zword 0 0 toVal (apHead 0 fNil)) (fCons (fC (.str "abcdefghijklmnopqrstuvwxyz")) fNil)))
  (sSeq (sSet 3 (fR m_ztake 0 0 toVal (apHead 0 (fCons (fCall lenF (lCons (pkVar 1) lNil)) fNil))))
  (sSeq (sSet 4 (fBin itF (pkVar 2) (fOf (fBin modF (fOf (fBin addF (fOf (fBin addF (fOf (fMeth "str" sindexM (pkVar 2) (lCons (fOf (fBin itF (pkVar 1) (pkVar 3))) lNil))) (fOf (fC (.int 1))))) (fOf (fR m_ztake 0 0 toVal (apHead 0 (fCons (fC (.int 25)) fNil)))))) (fOf (fC (.int 26)))))))
  (sRet (fSlice (fOf (fLst (fCons (rdVar 1) (fCons (fBin addF (fOf (fBin addF (fOf (fSlice (pkVar 1) ptNone (ptSome (rdVar 3)))) (pkVar 4))) (fOf (fSlice (pkVar 1) (ptSome (fBin addF (pkVar 3) (fOf (fC (.int 1))))) ptNone))) (fCons (fC (.str "load")) fNil))))) ptNone (ptSome (fBin addF (fOf (fC (.int 2))) (fOf (fR m_ztake 0 0 toVal (apHead 0 (fCons (fC (.int 2)) fNil)))))))))))
def m_zcalls : Mir := mir 1 5 F_zcalls
/-! zreach: 0 zoffer 1 zbridges 2 zfound 3 zmajor 4 zmet 5 zmany 6 zminor 7 zone -/
def I_zreach_1 : Fe (List D) := (iRng1 (fC (.int 10)))
def E_zreach_1 : Fe D := (fBin isnF (fOf (fV m_meets (fCons (rdVar 0) (fCons (fTup (fCons (fBin itF (pkVar 0) (fOf (fC (.int 0)))) (fCons (fTup (fCons (rdVar 3) (fCons (rdVar 6) fNil))) fNil))) (fCons (rdVar 1) fNil))))) (fOf (fC .none)))
def C_zreach_1 : Fe D := (fComp [6] I_zreach_1 (bName 6) fYes E_zreach_1)
def I_zreach_2 : Fe (List D) := (iAny (rdVar 4))
def E_zreach_2 : Fe D := (rdVar 7)
def T_zreach_2 : Fe Bool := (fB (rdVar 7))
def C_zreach_2 : Fe D := (fComp [7] I_zreach_2 (bName 7) T_zreach_2 E_zreach_2)
def I_zreach_3 : Fe (List D) := (iRng1 (fC (.int 10)))
def E_zreach_3 : Fe D := (fBin ltF (pkVar 6) (pkVar 5))
def C_zreach_3 : Fe D := (fComp [6] I_zreach_3 (bName 6) fYes E_zreach_3)
def I_zreach_4 : Fe (List D) := (iRng1 (fC (.int 10)))
def Y_zreach_4 : Fs := (sSeq (sSetO 4 C_zreach_1)
  (sSeq (sSet 5 (fCall lenF (lCons (fOf C_zreach_2) lNil)))
  (sSeq (sIf (fB (fBin neF (pkVar 4) (fOf C_zreach_3))) (sRet (fC .none)) sNext)
  (sApp 2 (rdVar 5)))))
def L_zreach_4 : Fs := (sFor I_zreach_4 (bName 3) Y_zreach_4)
def F_zreach : Fs :=
  (sSeq (sSetO 2 (fLst fNil))
  (sSeq L_zreach_4
  (sRetV 2)))
def m_zreach : Mir := mir 2 8 F_zreach
/-! law: 0 zscript 1 zbag_here 2 zcalls_here 3 zoffer 4 zbridges 5 zreach_here 6 zabove 7 zmore 8 zfound 9 zfirst 10 zthen 11 zlast 12 zrow 13 zk 14 zone 15 zmajor -/
def I_law_1 : Fe (List D) := (iRng1 (fR m_ztake 0 1 toVal (apHead 1 (fCons (fC (.int 7)) fNil))))
def E_law_1 : Fe D := (fR m_zbridge 0 1 toVal (apHead 1 (fCons (rdVar 2) fNil)))
def C_law_1 : Fe D := (fComp [13] I_law_1 (bName 13) fYes E_law_1)
def I_law_2 : Fe (List D) := (iAny (rdVar 4))
def E_law_2 : Fe D := (fTup (fCons (fBin itF (pkVar 2) (fOf (fC (.int 0)))) (fCons (fBin itF (fOf (fBin itF (pkVar 3) (fOf (fC (.int 1))))) (fOf (fC (.int 0)))) (fCons (fBin itF (pkVar 14) (fOf (fC (.int 2)))) (fCons (fBin itF (pkVar 14) (fOf (fC (.int 3)))) fNil)))))
def T_law_2 : Fe Bool := (fB (fBin neF (fOf (fBin itF (pkVar 14) (fOf (fC (.int 2))))) (fOf (fBin itF (fOf (fBin itF (pkVar 3) (fOf (fC (.int 1))))) (fOf (fC (.int 0)))))))
def C_law_2 : Fe D := (fComp [14] I_law_2 (bName 14) T_law_2 E_law_2)
def I_law_3 : Fe (List D) := (iRng1 (fC (.int 10)))
def E_law_3 : Fe D := (fBin addF (fOf (fC (.int 1))) (fOf (fV m_zfar (fCons (rdVar 3) (fCons (rdVar 15) (fCons (rdVar 4) fNil))))))
def C_law_3 : Fe D := (fComp [15] I_law_3 (bName 15) fYes E_law_3)
def I_law_4 : Fe (List D) := (iRng1 (fC (.int 10)))
def E_law_4 : Fe D := (rdVar 13)
def T_law_4 : Fe Bool := (fB (fBin ltF (fOf (fBin itF (pkVar 8) (pkVar 13))) (fOf (fBin itF (pkVar 5) (pkVar 13)))))
def C_law_4 : Fe D := (fComp [13] I_law_4 (bName 13) T_law_4 E_law_4)
def I_law_5 : Fe (List D) := (iAny (fLst (fCons (fV m_zreach (fCons (rdVar 6) (fCons (rdVar 4) fNil))) (fCons (fV m_zreach (fCons (rdVar 3) (fCons (rdVar 7) fNil))) fNil))))
def Y_law_5 : Fs := (sIf (fOr (fB (fBin isF (pkVar 8) (fOf (fC .none)))) (fB (fBin neF (fOf C_law_4) (fOf (fLst fNil))))) (sRet (fC (.bool false))) sNext)
def L_law_5 : Fs := (sFor I_law_5 (bName 8) Y_law_5)
def I_law_6 : Fe (List D) := (iRng1 (fC (.int 10)))
def E_law_6 : Fe D := (rdVar 13)
def T_law_6 : Fe Bool := (fAnd (fB (fBin neF (pkVar 13) (pkVar 9))) (fB (fBin neF (pkVar 13) (pkVar 10))))
def C_law_6 : Fe D := (fComp [13] I_law_6 (bName 13) T_law_6 E_law_6)
def F_law : Fs :=
  (sSeq (sSetO 1 (fVO m_zbag (fCons (rdVar 0) fNil)))
  (sSeq (sSet 2 (fR m_zcalls 0 1 toVal (apHead 1 fNil)))
  (sSeq (sSet 3 (fTup (fCons (fBin itF (pkVar 2) (fOf (fC (.int 0)))) (fCons (fR m_zversion 0 1 toVal (apHead 1 fNil)) fNil))))
  (sSeq (sSet 4 C_law_1)
  (sSeq (sIf (fB (fBin eqF (fOf (fR m_ztake 0 1 toVal (apHead 1 (fCons (fC (.int 2)) fNil)))) (fOf (fC (.int 0))))) (sSet 4 C_law_2) sNext)
  (sSeq (sSet 5 (fV m_zreach (fCons (rdVar 3) (fCons (rdVar 4) fNil))))
  (sSeq (sIf (fB (fBin neF (pkVar 5) (fOf C_law_3))) (sRet (fC (.bool false))) sNext)
  (sSeq (sSet 6 (fTup (fCons (fBin itF (pkVar 3) (fOf (fC (.int 0)))) (fCons (fTup (fCons (fBin itF (fOf (fBin itF (pkVar 3) (fOf (fC (.int 1))))) (fOf (fC (.int 0)))) (fCons (fCall minF (lCons (fOf (fC (.int 9))) (lCons (fOf (fBin addF (fOf (fBin addF (fOf (fBin itF (fOf (fBin itF (pkVar 3) (fOf (fC (.int 1))))) (fOf (fC (.int 1))))) (fOf (fC (.int 1))))) (fOf (fR m_ztake 0 1 toVal (apHead 1 (fCons (fC (.int 3)) fNil)))))) lNil))) fNil))) fNil))))
  (sSeq (sSet 7 (fBin addF (pkVar 4) (fOf (fLst (fCons (fR m_zbridge 0 1 toVal (apHead 1 (fCons (rdVar 2) fNil))) fNil)))))
  (sSeq L_law_5
  (sSeq (sSet 9 (fBin itF (fOf (fBin itF (pkVar 3) (fOf (fC (.int 1))))) (fOf (fC (.int 0)))))
  (sSeq (sSet 10 (fBin modF (fOf (fBin addF (fOf (fBin addF (pkVar 9) (fOf (fC (.int 1))))) (fOf (fR m_ztake 0 1 toVal (apHead 1 (fCons (fC (.int 9)) fNil)))))) (fOf (fC (.int 10)))))
  (sSeq (sSet 11 (fBin itF (fOf C_law_6) (fOf (fR m_ztake 0 1 toVal (apHead 1 (fCons (fC (.int 8)) fNil))))))
  (sSeq (sSet 12 (fLst (fCons (fTup (fCons (fBin itF (pkVar 3) (fOf (fC (.int 0)))) (fCons (rdVar 9) (fCons (rdVar 10) (fCons (fC (.int 9)) fNil))))) (fCons (fTup (fCons (fBin itF (pkVar 3) (fOf (fC (.int 0)))) (fCons (rdVar 10) (fCons (rdVar 11) (fCons (fC (.int 9)) fNil))))) fNil))))
  (sSeq (sIf (fB (fBin isnF (fOf (fV m_meets (fCons (rdVar 3) (fCons (fTup (fCons (fBin itF (pkVar 3) (fOf (fC (.int 0)))) (fCons (fTup (fCons (rdVar 11) (fCons (fC (.int 0)) fNil))) fNil))) (fCons (rdVar 12) fNil))))) (fOf (fC .none)))) (sRet (fC (.bool false))) sNext)
  (sSeq (sIf (fB (fBin isnF (fOf (fV m_meets (fCons (fTup (fCons (fBin itF (pkVar 2) (fOf (fC (.int 1)))) (fCons (fTup (fCons (fC (.int 9)) (fCons (fC (.int 9)) fNil))) fNil))) (fCons (fTup (fCons (fBin itF (pkVar 3) (fOf (fC (.int 0)))) (fCons (fTup (fCons (fC (.int 9)) (fCons (fC (.int 0)) fNil))) fNil))) (fCons (rdVar 7) fNil))))) (fOf (fC .none)))) (sRet (fC (.bool false))) sNext)
  (sRet (fBin eqF (fOf (fV m_zreach (fCons (rdVar 3) (fCons (rdVar 4) fNil)))) (pkVar 5)))))))))))))))))))
def m_law : Mir := mir 1 16 F_law
end k14

set_option Elab.async false
set_option linter.all false
set_option maxRecDepth 100000
set_option maxHeartbeats 0
namespace k14
open PySem PySem.Spec PyProof.Rows L2 Dl
def topS (i : Nat) : Stmt := PySem.Challenge.pw_plughall_k14_whole_how_far_an_offer_goes.main.body.getD i (.Pass ⟨0, 0, 0, 0⟩)
structure T (K : PySem.W.Frag) (mg : Str → Option Value) where
  a_lifts : Addr
  d_lifts : FuncData
  F_lifts : Fun K "lifts" "lifts" (topS 2) a_lifts d_lifts
  G_lifts : mg "lifts" = some (.ref a_lifts)
  a_meets : Addr
  d_meets : FuncData
  F_meets : Fun K "meets" "meets" (topS 3) a_meets d_meets
  G_meets : mg "meets" = some (.ref a_meets)
  a_zbag : Addr
  d_zbag : FuncData
  F_zbag : Fun K "_law_bag" "_law_bag" (topS 5) a_zbag d_zbag
  G_zbag : mg "_law_bag" = some (.ref a_zbag)
  a_ztake : Addr
  d_ztake : FuncData
  F_ztake : Fun K "_law_take" "_law_take" (topS 6) a_ztake d_ztake
  G_ztake : mg "_law_take" = some (.ref a_ztake)
  a_zword : Addr
  d_zword : FuncData
  F_zword : Fun K "_law_word" "_law_word" (topS 7) a_zword d_zword
  G_zword : mg "_law_word" = some (.ref a_zword)
  a_zversion : Addr
  d_zversion : FuncData
  F_zversion : Fun K "_law_version" "_law_version" (topS 8) a_zversion d_zversion
  G_zversion : mg "_law_version" = some (.ref a_zversion)
  a_zcalls : Addr
  d_zcalls : FuncData
  F_zcalls : Fun K "_law_calls" "_law_calls" (topS 9) a_zcalls d_zcalls
  G_zcalls : mg "_law_calls" = some (.ref a_zcalls)
  a_zbridge : Addr
  d_zbridge : FuncData
  F_zbridge : Fun K "_law_bridge" "_law_bridge" (topS 10) a_zbridge d_zbridge
  G_zbridge : mg "_law_bridge" = some (.ref a_zbridge)
  a_zfar : Addr
  d_zfar : FuncData
  F_zfar : Fun K "_law_far" "_law_far" (topS 11) a_zfar d_zfar
  G_zfar : mg "_law_far" = some (.ref a_zfar)
  a_zreach : Addr
  d_zreach : FuncData
  F_zreach : Fun K "_law_reach" "_law_reach" (topS 12) a_zreach d_zreach
  G_zreach : mg "_law_reach" = some (.ref a_zreach)
  a_law : Addr
  d_law : FuncData
  F_law : Fun K "law" "law" (topS 13) a_law d_law
  G_law : mg "law" = some (.ref a_law)
  n_abs : mg "abs" = none
  n_len : mg "len" = none
  n_max : mg "max" = none
  n_range : mg "range" = none
  n_min : mg "min" = none
  c_SAME : ∃ t, mg "SAME" = some (.str "same" t)
section
variable {P : Program} {w : World} {K : PySem.W.Frag} {mg : Str → Option Value} {base : Heap}
theorem sc_lifts : FnScope ["bridge", "offer", "ask", "call", "major", "other", "minor", "offered", "wanted"] ["bridge", "offer", "ask"] (defScope (topS 2)) := ⟨rfl, rfl, rfl, by decide +kernel, rfl, by decide +kernel, by decide +kernel⟩
theorem g_lifts (t : T K mg) : FnG P w K mg base 1 t.a_lifts t.d_lifts ["bridge", "offer", "ask"] m_lifts :=
  fnG_of t.F_lifts sc_lifts (t.F_lifts.binds fun _ _ _ _ _ _ us hl => match us, hl with | [_, _, _], _ => rfl) rfl rfl fun cdv A outer s H E ok =>
  (ds_cons (ds_asg (de_var (i := 0) rfl (.inl rfl)) (dg_tup rfl (dgs_cons (dg_name (i := 3) sc_lifts.nd rfl (.inl rfl)) (dgs_cons (dg_name (i := 4) sc_lifts.nd rfl (.inl rfl)) (dgs_cons (dg_name (i := 5) sc_lifts.nd rfl (.inl rfl)) (dgs_cons (dg_name (i := 6) sc_lifts.nd rfl (.inl rfl)) dgs_nil))))))
  (ds_cons (ds_par (ps_par (i := 7) (j := 8) rfl sc_lifts.nd rfl rfl (by decide) rfl rfl (da_cons (de_ix ix_D opD_rD (dp_var (i := 1) rfl (.inl rfl)) (dp_o de_int) (fun _ _ => rfl)) (da_cons (de_ix ix_D opD_rD (dp_var (i := 2) rfl (.inl rfl)) (dp_o de_int) (fun _ _ => rfl)) da_nil)) rfl))
  (ds_one (ds_ret (de_and (de_cmp (op_eqA ok.hu) opD_rD (dp_var (i := 3) rfl (.inl rfl)) (dp_o (de_ix ix_D opD_rD (dp_var (i := 1) rfl (.inl rfl)) (dp_o de_int) (fun _ _ => rfl))) (nomark _)) (de_and (de_cmp (op_eqA ok.hu) opD_rD (dp_o (de_tup (da_cons (de_var (i := 4) rfl (.inl rfl)) (da_cons (de_var (i := 5) rfl (.inl rfl)) da_nil)))) (dp_o (de_tup (da_cons (de_ix ix_D opD_rD (dp_var (i := 7) rfl (.inl rfl)) (dp_o de_int) (fun _ _ => rfl)) (da_cons (de_ix ix_D opD_rD (dp_var (i := 8) rfl (.inl rfl)) (dp_o de_int) (fun _ _ => rfl)) da_nil)))) (nomark _)) (de_one (de_cmp (op_leA ok.hu) opD_rD (dp_o (de_ix ix_D opD_rD (dp_var (i := 8) rfl (.inl rfl)) (dp_o de_int) (fun _ _ => rfl))) (dp_var (i := 6) rfl (.inl rfl)) (nomark _)))))))))
theorem sc_zbag : FnScope ["_law_script", "_law_cell"] ["_law_script"] (defScope (topS 5)) := ⟨rfl, rfl, rfl, by decide +kernel, rfl, by decide +kernel, by decide +kernel⟩
theorem g_zbag (t : T K mg) : FnG P w K mg base 1 t.a_zbag t.d_zbag ["_law_script"] m_zbag :=
  fnG_of t.F_zbag sc_zbag (t.F_zbag.binds fun _ _ _ _ _ _ us hl => match us, hl with | [_], _ => rfl) rfl rfl fun cdv A outer s H E ok =>
  (ds_one (ds_retO (do_lst (da_cons de_int (da_cons de_int (da_cons de_int (da_cons (de_do (do_comp (own := [("_law_cell", 1)]) rfl sc_zbag.nd (di_any (de_slice (dp_var (i := 0) rfl (.inl rfl)) dpt_none (dpt_some de_int))) (blkOk_by (N := ["_law_script", "_law_cell"]) (sc := defScope (topS 5)) (by decide +kernel)) (by decide) (fun _ _ _ _ _ => (dg_name (i := 1) sc_zbag.nd rfl (.inl rfl))) (fun _ _ _ _ _ => dts_nil) (fun _ _ _ _ _ => (de_callB call_absD rfl t.n_abs (by decide +kernel) (dl_cons (dp_var (i := 1) rfl (.inl rfl)) dl_nil))))) da_nil)))))))
theorem sc_ztake : FnScope ["_law_bag_here", "_law_many", "_law_cell", "_law_value", "_law_first", "_law_second"] ["_law_bag_here", "_law_many"] (defScope (topS 6)) := ⟨rfl, rfl, rfl, by decide +kernel, rfl, by decide +kernel, by decide +kernel⟩
theorem g_ztake (t : T K mg) : FnG P w K mg base 1 t.a_ztake t.d_ztake ["_law_bag_here", "_law_many"] m_ztake :=
  fnG_of t.F_ztake sc_ztake (t.F_ztake.binds fun _ _ _ _ _ _ us hl => match us, hl with | [_, _], _ => rfl) rfl rfl fun cdv A outer s H E ok =>
  (ds_cons (ds_if (dt_cmp (op_eqA ok.hu) (dp_o (de_ix ix_D opD_rD (dp_var (i := 0) rfl (.inl rfl)) (dp_o de_int) (fun _ _ => rfl))) (dp_o de_int) (nomark _)) (ds_cons (ds_set (i := 2) sc_ztake.nd rfl (.inl rfl) de_int)
  (ds_cons (ds_if (dt_cmp (op_ltA ok.hu) (dp_o (de_ix ix_D opD_rD (dp_var (i := 0) rfl (.inl rfl)) (dp_o de_int) (fun _ _ => rfl))) (dp_o (de_callB call_lenD rfl t.n_len (by decide +kernel) (dl_cons (dp_o (de_ix ix_D opD_rD (dp_var (i := 0) rfl (.inl rfl)) (dp_o de_int) (fun _ _ => rfl))) dl_nil))) (nomark _)) (ds_one (ds_set (i := 2) sc_ztake.nd rfl (.inl rfl) (de_ix ix_D opD_rD (dp_o (de_ix ix_D opD_rD (dp_var (i := 0) rfl (.inl rfl)) (dp_o de_int) (fun _ _ => rfl))) (dp_o (de_ix ix_D opD_rD (dp_var (i := 0) rfl (.inl rfl)) (dp_o de_int) (fun _ _ => rfl))) (fun _ _ => rfl)))) ds_nil)
  (ds_cons (ds_augI (v := 0) ip_add rfl (.inl rfl) de_int de_int)
  (ds_cons (ds_if (dt_cmp (op_geA ok.hu) (dp_var (i := 2) rfl (.inl rfl)) (dp_o de_int) (nomark _)) (ds_one (ds_itemV (v := 0) rfl (.inl rfl) de_int (de_var (i := 2) rfl (.inl rfl)))) ds_nil)
  (ds_one (ds_itemV (v := 0) rfl (.inl rfl) de_int (de_op op_modD opD_rD (dp_o (de_op op_addD opD_rD (dp_o (de_op op_addD opD_rD (dp_o (de_op op_mulD opD_rD (dp_o (de_ix ix_D opD_rD (dp_var (i := 0) rfl (.inl rfl)) (dp_o de_int) (fun _ _ => rfl))) (dp_o de_int))) (dp_o (de_op op_modD opD_rD (dp_var (i := 2) rfl (.inl rfl)) (dp_o de_int))))) (dp_o (de_op op_mulD opD_rD (dp_o de_int) (dp_o (de_ix ix_D opD_rD (dp_var (i := 0) rfl (.inl rfl)) (dp_o de_int) (fun _ _ => rfl))))))) (dp_o de_int)))))))) ds_nil)
  (ds_cons (ds_if (dt_cmp (op_gtA ok.hu) (dp_o (de_ix ix_D opD_rD (dp_var (i := 0) rfl (.inl rfl)) (dp_o de_int) (fun _ _ => rfl))) (dp_o de_int) (nomark _)) (ds_cons (ds_set (i := 3) sc_ztake.nd rfl (.inl rfl) (de_op op_modD opD_rD (dp_o (de_ix ix_D opD_rD (dp_var (i := 0) rfl (.inl rfl)) (dp_o de_int) (fun _ _ => rfl))) (dp_var (i := 1) rfl (.inl rfl))))
  (ds_cons (ds_itemV (v := 0) rfl (.inl rfl) de_int (de_op op_divD opD_rD (dp_o (de_ix ix_D opD_rD (dp_var (i := 0) rfl (.inl rfl)) (dp_o de_int) (fun _ _ => rfl))) (dp_var (i := 1) rfl (.inl rfl))))
  (ds_one (ds_retV (i := 3) rfl (.inl rfl))))) ds_nil)
  (ds_cons (ds_set (i := 4) sc_ztake.nd rfl (.inl rfl) (de_op op_modD opD_rD (dp_o (de_op op_mulD opD_rD (dp_o (de_op op_addD opD_rD (dp_o (de_ix ix_D opD_rD (dp_var (i := 0) rfl (.inl rfl)) (dp_o de_int) (fun _ _ => rfl))) (dp_o de_int))) (dp_o de_int))) (dp_o de_int)))
  (ds_cons (ds_set (i := 5) sc_ztake.nd rfl (.inl rfl) (de_op op_modD opD_rD (dp_o (de_op op_mulD opD_rD (dp_o (de_op op_modD opD_rD (dp_o (de_op op_mulD opD_rD (dp_var (i := 4) rfl (.inl rfl)) (dp_var (i := 4) rfl (.inl rfl)))) (dp_o de_int))) (dp_o de_int))) (dp_o de_int)))
  (ds_cons (ds_if (dt_cmp (op_gtA ok.hu) (dp_var (i := 1) rfl (.inl rfl)) (dp_o de_int) (nomark _)) (ds_one (ds_ret (de_op op_modD opD_rD (dp_o (de_op op_addD opD_rD (dp_o (de_op op_mulD opD_rD (dp_var (i := 5) rfl (.inl rfl)) (dp_o de_int))) (dp_var (i := 4) rfl (.inl rfl)))) (dp_var (i := 1) rfl (.inl rfl))))) ds_nil)
  (ds_one (ds_ret (de_op op_modD opD_rD (dp_o (de_op op_divD opD_rD (dp_var (i := 5) rfl (.inl rfl)) (dp_o de_int))) (dp_var (i := 1) rfl (.inl rfl))))))))))
theorem sc_zfar : FnScope ["_law_offer", "_law_major", "_law_bridges", "_law_some", "_law_one"] ["_law_offer", "_law_major", "_law_bridges"] (defScope (topS 11)) := ⟨rfl, rfl, rfl, by decide +kernel, rfl, by decide +kernel, by decide +kernel⟩
theorem g_zfar (t : T K mg) : FnG P w K mg base 1 t.a_zfar t.d_zfar ["_law_offer", "_law_major", "_law_bridges"] m_zfar :=
  fnG_of t.F_zfar sc_zfar (t.F_zfar.binds fun _ _ _ _ _ _ us hl => match us, hl with | [_, _, _], _ => rfl) rfl rfl fun cdv A outer s H E ok =>
  (ds_cons (ds_if (dt_cmp (op_eqA ok.hu) (dp_o (de_ix ix_D opD_rD (dp_o (de_ix ix_D opD_rD (dp_var (i := 0) rfl (.inr (.inl rfl))) (dp_o de_int) (fun _ _ => rfl))) (dp_o de_int) (fun _ _ => rfl))) (dp_var (i := 1) rfl (.inr (.inl rfl))) (nomark _)) (ds_one (ds_ret (de_ix ix_D opD_rD (dp_o (de_ix ix_D opD_rD (dp_var (i := 0) rfl (.inr (.inl rfl))) (dp_o de_int) (fun _ _ => rfl))) (dp_o de_int) (fun _ _ => rfl)))) ds_nil)
  (ds_cons (ds_setLc (i := 3) (own := [("_law_one", 4)]) rfl sc_zfar.nd rfl rfl rfl rfl (by decide +kernel) (di_any (de_var (i := 2) rfl (.inl rfl))) (blkOk_by (N := ["_law_offer", "_law_major", "_law_bridges", "_law_some", "_law_one"]) (sc := defScope (topS 11)) (by decide +kernel)) (by decide) (fun _ _ _ _ _ => (dg_name (i := 4) sc_zfar.nd rfl (.inl rfl))) (fun _ _ _ _ _ => (dts_one (dt_cmp (op_eqA ok.blk.hu) (dp_o (de_slice (dp_var (i := 4) rfl (.inl rfl)) dpt_none (dpt_some de_int))) (dp_o (de_tup (da_cons (de_ix ix_D opD_rD (dp_var (i := 0) rfl (.inr (.inl rfl))) (dp_o de_int) (fun _ _ => rfl)) (da_cons (de_ix ix_D opD_rD (dp_o (de_ix ix_D opD_rD (dp_var (i := 0) rfl (.inr (.inl rfl))) (dp_o de_int) (fun _ _ => rfl))) (dp_o de_int) (fun _ _ => rfl)) (da_cons (de_var (i := 1) rfl (.inr (.inl rfl))) da_nil))))) (nomark _)))) (fun _ _ _ _ _ => (de_ix ix_D opD_rD (dp_var (i := 4) rfl (.inl rfl)) (dp_o de_int) (fun _ _ => rfl))))
  (ds_one (ds_ret (de_callK (call_maxLDk ok.hu rfl) rfl t.n_max (by decide +kernel) (dl_cons (dp_var (i := 3) rfl (.inl rfl)) dl_nil) (dk_one (dp_o (de_op op_subD opD_rD (dp_o de_int) (dp_o de_int)))))))))
theorem sc_meets : FnScope ["offer", "ask", "bridges", "offered", "wanted", "bridge"] ["offer", "ask", "bridges"] (defScope (topS 3)) := ⟨rfl, rfl, rfl, by decide +kernel, rfl, by decide +kernel, by decide +kernel⟩
theorem g_meets (t : T K mg) : FnG P w K mg base 2 t.a_meets t.d_meets ["offer", "ask", "bridges"] m_meets :=
  fnG_of t.F_meets sc_meets (t.F_meets.binds fun _ _ _ _ _ _ us hl => match us, hl with | [_, _, _], _ => rfl) rfl rfl fun cdv A outer s H E ok =>
  (ds_cons (ds_if (dt_cmp (op_neA ok.hu) (dp_o (de_ix ix_D opD_rD (dp_var (i := 0) rfl (.inl rfl)) (dp_o de_int) (fun _ _ => rfl))) (dp_o (de_ix ix_D opD_rD (dp_var (i := 1) rfl (.inl rfl)) (dp_o de_int) (fun _ _ => rfl))) (nomark _)) (ds_one (ds_ret de_non)) ds_nil)
  (ds_cons (ds_par (ps_par (i := 3) (j := 4) rfl sc_meets.nd rfl rfl (by decide) rfl rfl (da_cons (de_ix ix_D opD_rD (dp_var (i := 0) rfl (.inl rfl)) (dp_o de_int) (fun _ _ => rfl)) (da_cons (de_ix ix_D opD_rD (dp_var (i := 1) rfl (.inl rfl)) (dp_o de_int) (fun _ _ => rfl)) da_nil)) rfl))
  (ds_cons (ds_if (dt_w (dw_and (dt_cmp (op_eqA ok.hu) (dp_o (de_ix ix_D opD_rD (dp_var (i := 3) rfl (.inl rfl)) (dp_o de_int) (fun _ _ => rfl))) (dp_o (de_ix ix_D opD_rD (dp_var (i := 4) rfl (.inl rfl)) (dp_o de_int) (fun _ _ => rfl))) (nomark _)) (dw_and1 (dt_cmp (op_geA ok.hu) (dp_o (de_ix ix_D opD_rD (dp_var (i := 3) rfl (.inl rfl)) (dp_o de_int) (fun _ _ => rfl))) (dp_o (de_ix ix_D opD_rD (dp_var (i := 4) rfl (.inl rfl)) (dp_o de_int) (fun _ _ => rfl))) (nomark _))))) (ds_one (ds_ret (de_gstr t.c_SAME rfl))) ds_nil)
  (ds_cons (ds_for (passes_of rfl) rfl (di_any (de_var (i := 2) rfl (.inl rfl))) (dg_name (i := 5) sc_meets.nd rfl (.inl rfl)) (ds_one (ds_if (dt_val (de_call (g_lifts t) (ok.mono (by decide)) (takes_of rfl rfl rfl rfl) rfl t.G_lifts (da_cons (de_var (i := 5) rfl (.inl rfl)) (da_cons (de_var (i := 0) rfl (.inl rfl)) (da_cons (de_var (i := 1) rfl (.inl rfl)) da_nil))))) (ds_one (ds_retV (i := 5) rfl (.inl rfl))) ds_nil)))
  (ds_one (ds_ret de_non))))))
theorem sc_zword : FnScope ["_law_bag_here", "_law_some", "_law_letters", "_law_k"] ["_law_bag_here"] (defScope (topS 7)) := ⟨rfl, rfl, rfl, by decide +kernel, rfl, by decide +kernel, by decide +kernel⟩
theorem g_zword (t : T K mg) : FnG P w K mg base 2 t.a_zword t.d_zword ["_law_bag_here"] m_zword :=
  fnG_of t.F_zword sc_zword (t.F_zword.binds fun _ _ _ _ _ _ us hl => match us, hl with | [_], _ => rfl) rfl rfl fun cdv A outer s H E ok =>
  (ds_cons (ds_set (i := 1) sc_zword.nd rfl (.inl rfl) de_str)
  (ds_cons (ds_set (i := 1) sc_zword.nd rfl (.inl rfl) (de_meth (T := "str") (.inl rfl) PySem.F.plainAttrs_str PySem.F.slot_str_split PySem.F.type_str_split mt_splitD (dp_o (de_op op_addD opD_rD (dp_var (i := 1) rfl (.inl rfl)) (dp_o de_str))) (dl_cons (dp_o de_str) dl_nil)))
  (ds_cons (ds_if (dt_cmp (op_eqA ok.hu) (dp_o (de_callR (g_ztake t) (ok.mono (by decide)) (takes_of rfl rfl rfl rfl) rfl t.G_ztake (dap_head rfl (.inr (.inl rfl)) (da_cons de_int da_nil)))) (dp_o de_int) (nomark _)) (ds_one (ds_ret (de_ix ix_D opD_rD (dp_var (i := 1) rfl (.inl rfl)) (dp_o (de_callR (g_ztake t) (ok.mono (by decide)) (takes_of rfl rfl rfl rfl) rfl t.G_ztake (dap_head rfl (.inr (.inl rfl)) (da_cons (de_callB call_lenD rfl t.n_len (by decide +kernel) (dl_cons (dp_var (i := 1) rfl (.inl rfl)) dl_nil)) da_nil)))) (fun _ _ => rfl)))) ds_nil)
  (ds_cons (ds_set (i := 2) sc_zword.nd rfl (.inr rfl) de_str)
  (ds_one (ds_ret (de_meth (T := "str") (.inl rfl) PySem.F.plainAttrs_str PySem.F.slot_str_join PySem.F.type_str_join mt_joinD (dp_o de_str) (dl_cons (dp_o (de_do (do_comp (own := [("_law_k", 3)]) rfl sc_zword.nd (di_rng1 rfl t.n_range (de_op op_addD opD_rD (dp_o de_int) (dp_o (de_callR (g_ztake t) (ok.mono (by decide)) (takes_of rfl rfl rfl rfl) rfl t.G_ztake (dap_head rfl (.inr (.inl rfl)) (da_cons de_int da_nil)))))) (blkOk_by (N := ["_law_bag_here", "_law_some", "_law_letters", "_law_k"]) (sc := defScope (topS 7)) (by decide +kernel)) (by decide) (fun _ _ _ _ _ => (dg_name (i := 3) sc_zword.nd rfl (.inl rfl))) (fun _ _ _ _ _ => dts_nil) (fun _ _ _ _ _ => (de_ix ix_D opD_rD (dp_var (i := 2) rfl (.inr (.inl rfl))) (dp_o (de_callR (g_ztake t) (ok.blk.mono (by decide)) takesN rfl t.G_ztake (dap_head rfl (.inr (.inl rfl)) (da_cons de_int da_nil)))) (fun _ _ => rfl)))))) dl_nil))))))))
theorem sc_zversion : FnScope ["_law_bag_here"] ["_law_bag_here"] (defScope (topS 8)) := ⟨rfl, rfl, rfl, by decide +kernel, rfl, by decide +kernel, by decide +kernel⟩
theorem g_zversion (t : T K mg) : FnG P w K mg base 2 t.a_zversion t.d_zversion ["_law_bag_here"] m_zversion :=
  fnG_of t.F_zversion sc_zversion (t.F_zversion.binds fun _ _ _ _ _ _ us hl => match us, hl with | [_], _ => rfl) rfl rfl fun cdv A outer s H E ok =>
  (ds_one (ds_ret (de_tup (da_cons (de_callR (g_ztake t) (ok.mono (by decide)) (takes_of rfl rfl rfl rfl) rfl t.G_ztake (dap_head rfl (.inl rfl) (da_cons de_int da_nil))) (da_cons (de_callR (g_ztake t) (ok.mono (by decide)) (takes_of rfl rfl rfl rfl) rfl t.G_ztake (dap_head rfl (.inl rfl) (da_cons de_int da_nil))) da_nil)))))
theorem sc_zbridge : FnScope ["_law_bag_here", "_law_calls_here", "_law_major", "_law_other"] ["_law_bag_here", "_law_calls_here"] (defScope (topS 10)) := ⟨rfl, rfl, rfl, by decide +kernel, rfl, by decide +kernel, by decide +kernel⟩
theorem g_zbridge (t : T K mg) : FnG P w K mg base 2 t.a_zbridge t.d_zbridge ["_law_bag_here", "_law_calls_here"] m_zbridge :=
  fnG_of t.F_zbridge sc_zbridge (t.F_zbridge.binds fun _ _ _ _ _ _ us hl => match us, hl with | [_, _], _ => rfl) rfl rfl fun cdv A outer s H E ok =>
  (ds_cons (ds_set (i := 2) sc_zbridge.nd rfl (.inl rfl) (de_callR (g_ztake t) (ok.mono (by decide)) (takes_of rfl rfl rfl rfl) rfl t.G_ztake (dap_head rfl (.inl rfl) (da_cons de_int da_nil))))
  (ds_cons (ds_set (i := 3) sc_zbridge.nd rfl (.inl rfl) (de_op op_modD opD_rD (dp_o (de_op op_addD opD_rD (dp_o (de_op op_addD opD_rD (dp_var (i := 2) rfl (.inl rfl)) (dp_o de_int))) (dp_o (de_callR (g_ztake t) (ok.mono (by decide)) (takes_of rfl rfl rfl rfl) rfl t.G_ztake (dap_head rfl (.inl rfl) (da_cons de_int da_nil)))))) (dp_o de_int)))
  (ds_one (ds_ret (de_tup (da_cons (de_ix ix_D opD_rD (dp_var (i := 1) rfl (.inl rfl)) (dp_o (de_callR (g_ztake t) (ok.mono (by decide)) (takes_of rfl rfl rfl rfl) rfl t.G_ztake (dap_head rfl (.inl rfl) (da_cons (de_callB call_lenD rfl t.n_len (by decide +kernel) (dl_cons (dp_var (i := 1) rfl (.inl rfl)) dl_nil)) da_nil)))) (fun _ _ => rfl)) (da_cons (de_var (i := 2) rfl (.inl rfl)) (da_cons (de_var (i := 3) rfl (.inl rfl)) (da_cons (de_callR (g_ztake t) (ok.mono (by decide)) (takes_of rfl rfl rfl rfl) rfl t.G_ztake (dap_head rfl (.inl rfl) (da_cons de_int da_nil))) da_nil)))))))))
theorem sc_zcalls : FnScope ["_law_bag_here", "_law_word_here", "_law_letters", "_law_at", "_law_letter"] ["_law_bag_here"] (defScope (topS 9)) := ⟨rfl, rfl, rfl, by decide +kernel, rfl, by decide +kernel, by decide +kernel⟩
theorem g_zcalls (t : T K mg) : FnG P w K mg base 3 t.a_zcalls t.d_zcalls ["_law_bag_here"] m_zcalls :=
  fnG_of t.F_zcalls sc_zcalls (t.F_zcalls.binds fun _ _ _ _ _ _ us hl => match us, hl with | [_], _ => rfl) rfl rfl fun cdv A outer s H E ok =>
  (ds_cons (ds_par (ps_par (i := 1) (j := 2) rfl sc_zcalls.nd rfl rfl (by decide) rfl rfl (da_cons (de_callR (g_zword t) (ok.mono (by decide)) (takes_of rfl rfl rfl rfl) rfl t.G_zword (dap_head rfl (.inl rfl) da_nil)) (da_cons de_str da_nil)) rfl))
  (ds_cons (ds_set (i := 3) sc_zcalls.nd rfl (.inl rfl) (de_callR (g_ztake t) (ok.mono (by decide)) (takes_of rfl rfl rfl rfl) rfl t.G_ztake (dap_head rfl (.inl rfl) (da_cons (de_callB call_lenD rfl t.n_len (by decide +kernel) (dl_cons (dp_var (i := 1) rfl (.inl rfl)) dl_nil)) da_nil))))
  (ds_cons (ds_set (i := 4) sc_zcalls.nd rfl (.inl rfl) (de_ix ix_D opD_rD (dp_var (i := 2) rfl (.inl rfl)) (dp_o (de_op op_modD opD_rD (dp_o (de_op op_addD opD_rD (dp_o (de_op op_addD opD_rD (dp_o (de_meth (T := "str") (.inl rfl) PySem.F.plainAttrs_str PySem.F.slot_str_index PySem.F.type_str_index mt_sindexD (dp_var (i := 2) rfl (.inl rfl)) (dl_cons (dp_o (de_ix ix_D opD_rD (dp_var (i := 1) rfl (.inl rfl)) (dp_var (i := 3) rfl (.inl rfl)) (fun _ _ => rfl))) dl_nil))) (dp_o de_int))) (dp_o (de_callR (g_ztake t) (ok.mono (by decide)) (takes_of rfl rfl rfl rfl) rfl t.G_ztake (dap_head rfl (.inl rfl) (da_cons de_int da_nil)))))) (dp_o de_int))) (fun _ _ => rfl)))
  (ds_one (ds_ret (de_slice (dp_o (de_lst (da_cons (de_var (i := 1) rfl (.inl rfl)) (da_cons (de_op op_addD opD_rD (dp_o (de_op op_addD opD_rD (dp_o (de_slice (dp_var (i := 1) rfl (.inl rfl)) dpt_none (dpt_some (de_var (i := 3) rfl (.inl rfl))))) (dp_var (i := 4) rfl (.inl rfl)))) (dp_o (de_slice (dp_var (i := 1) rfl (.inl rfl)) (dpt_some (de_op op_addD opD_rD (dp_var (i := 3) rfl (.inl rfl)) (dp_o de_int))) dpt_none))) (da_cons de_str da_nil))))) dpt_none (dpt_some (de_op op_addD opD_rD (dp_o de_int) (dp_o (de_callR (g_ztake t) (ok.mono (by decide)) (takes_of rfl rfl rfl rfl) rfl t.G_ztake (dap_head rfl (.inl rfl) (da_cons de_int da_nil))))))))))))
theorem sc_zreach : FnScope ["_law_offer", "_law_bridges", "_law_found", "_law_major", "_law_met", "_law_many", "_law_minor", "_law_one"] ["_law_offer", "_law_bridges"] (defScope (topS 12)) := ⟨rfl, rfl, rfl, by decide +kernel, rfl, by decide +kernel, by decide +kernel⟩
theorem g_zreach (t : T K mg) : FnG P w K mg base 3 t.a_zreach t.d_zreach ["_law_offer", "_law_bridges"] m_zreach :=
  fnG_of t.F_zreach sc_zreach (t.F_zreach.binds fun _ _ _ _ _ _ us hl => match us, hl with | [_, _], _ => rfl) rfl rfl fun cdv A outer s H E ok =>
  (ds_cons (ds_setO (i := 2) sc_zreach.nd rfl (.inl rfl) (do_lst da_nil))
  (ds_cons (ds_for (passes_of rfl) rfl (di_rng1 rfl t.n_range de_int) (dg_name (i := 3) sc_zreach.nd rfl (.inr rfl)) (ds_cons (ds_setLc (i := 4) (own := [("_law_minor", 6)]) rfl sc_zreach.nd rfl rfl rfl rfl (by decide +kernel) (di_rng1 rfl t.n_range de_int) (blkOk_by (N := ["_law_offer", "_law_bridges", "_law_found", "_law_major", "_law_met", "_law_many", "_law_minor", "_law_one"]) (sc := defScope (topS 12)) (by decide +kernel)) (by decide) (fun _ _ _ _ _ => (dg_name (i := 6) sc_zreach.nd rfl (.inl rfl))) (fun _ _ _ _ _ => dts_nil) (fun _ _ _ _ _ => (de_cmp op_isnD opD_rD (dp_o (de_call (g_meets t) (ok.blk.mono (by decide)) takesN rfl t.G_meets (da_cons (de_var (i := 0) rfl (.inr (.inl rfl))) (da_cons (de_tup (da_cons (de_ix ix_D opD_rD (dp_var (i := 0) rfl (.inr (.inl rfl))) (dp_o de_int) (fun _ _ => rfl)) (da_cons (de_tup (da_cons (de_var (i := 3) rfl (.inr (.inl rfl))) (da_cons (de_var (i := 6) rfl (.inl rfl)) da_nil))) da_nil))) (da_cons (de_var (i := 1) rfl (.inr (.inl rfl))) da_nil))))) (dp_o de_non) (nomark _))))
  (ds_cons (ds_set (i := 5) sc_zreach.nd rfl (.inr rfl) (de_callB call_lenD rfl t.n_len (by decide +kernel) (dl_cons (dp_o (de_do (do_comp (own := [("_law_one", 7)]) rfl sc_zreach.nd (di_any (de_var (i := 4) rfl (.inl rfl))) (blkOk_by (N := ["_law_offer", "_law_bridges", "_law_found", "_law_major", "_law_met", "_law_many", "_law_minor", "_law_one"]) (sc := defScope (topS 12)) (by decide +kernel)) (by decide) (fun _ _ _ _ _ => (dg_name (i := 7) sc_zreach.nd rfl (.inl rfl))) (fun _ _ _ _ _ => (dts_one (dt_val (de_var (i := 7) rfl (.inl rfl))))) (fun _ _ _ _ _ => (de_var (i := 7) rfl (.inl rfl)))))) dl_nil)))
  (ds_cons (ds_if (dt_cmp (op_neA ok.hu) (dp_var (i := 4) rfl (.inl rfl)) (dp_o (de_do (do_comp (own := [("_law_minor", 6)]) rfl sc_zreach.nd (di_rng1 rfl t.n_range de_int) (blkOk_by (N := ["_law_offer", "_law_bridges", "_law_found", "_law_major", "_law_met", "_law_many", "_law_minor", "_law_one"]) (sc := defScope (topS 12)) (by decide +kernel)) (by decide) (fun _ _ _ _ _ => (dg_name (i := 6) sc_zreach.nd rfl (.inl rfl))) (fun _ _ _ _ _ => dts_nil) (fun _ _ _ _ _ => (de_cmp (op_ltA ok.blk.hu) opD_rD (dp_var (i := 6) rfl (.inl rfl)) (dp_var (i := 5) rfl (.inr (.inl rfl))) (nomark _)))))) (nomark _)) (ds_one (ds_ret de_non)) ds_nil)
  (ds_one (ds_app (ps_expr (pe_bm PySem.F.plainAttrs_list PySem.F.slot_list_append PySem.F.type_list_append mt_append (pe_var (i := 2) rfl (.inl rfl)) (pa_cons (de_var (i := 5) rfl (.inr (.inl rfl))) pa_nil)))))))))
  (ds_one (ds_retV (i := 2) rfl (.inl rfl)))))
theorem sc_law : FnScope ["_law_script", "_law_bag_here", "_law_calls_here", "_law_offer", "_law_bridges", "_law_reach_here", "_law_above", "_law_more", "_law_found", "_law_first", "_law_then", "_law_last", "_law_row", "_law_k", "_law_one", "_law_major"] ["_law_script"] (defScope (topS 13)) := ⟨rfl, rfl, rfl, by decide +kernel, rfl, by decide +kernel, by decide +kernel⟩
theorem g_law (t : T K mg) : FnG P w K mg base 4 t.a_law t.d_law ["_law_script"] m_law :=
  fnG_of t.F_law sc_law (t.F_law.binds fun _ _ _ _ _ _ us hl => match us, hl with | [_], _ => rfl) rfl rfl fun cdv A outer s H E ok =>
  (ds_cons (ds_setO (i := 1) sc_law.nd rfl (.inr rfl) (do_call (g_zbag t) (ok.mono (by decide)) (takes_of rfl rfl rfl rfl) rfl t.G_zbag (da_cons (de_var (i := 0) rfl (.inl rfl)) da_nil)))
  (ds_cons (ds_set (i := 2) sc_law.nd rfl (.inr rfl) (de_callR (g_zcalls t) (ok.mono (by decide)) (takes_of rfl rfl rfl rfl) rfl t.G_zcalls (dap_head rfl (.inr (.inl rfl)) da_nil)))
  (ds_cons (ds_set (i := 3) sc_law.nd rfl (.inr rfl) (de_tup (da_cons (de_ix ix_D opD_rD (dp_var (i := 2) rfl (.inr (.inl rfl))) (dp_o de_int) (fun _ _ => rfl)) (da_cons (de_callR (g_zversion t) (ok.mono (by decide)) (takes_of rfl rfl rfl rfl) rfl t.G_zversion (dap_head rfl (.inr (.inl rfl)) da_nil)) da_nil))))
  (ds_cons (ds_set (i := 4) sc_law.nd rfl (.inr rfl) (de_do (do_comp (own := [("_law_k", 13)]) rfl sc_law.nd (di_rng1 rfl t.n_range (de_callR (g_ztake t) (ok.mono (by decide)) (takes_of rfl rfl rfl rfl) rfl t.G_ztake (dap_head rfl (.inr (.inl rfl)) (da_cons de_int da_nil)))) (blkOk_by (N := ["_law_script", "_law_bag_here", "_law_calls_here", "_law_offer", "_law_bridges", "_law_reach_here", "_law_above", "_law_more", "_law_found", "_law_first", "_law_then", "_law_last", "_law_row", "_law_k", "_law_one", "_law_major"]) (sc := defScope (topS 13)) (by decide +kernel)) (by decide) (fun _ _ _ _ _ => (dg_name (i := 13) sc_law.nd rfl (.inl rfl))) (fun _ _ _ _ _ => dts_nil) (fun _ _ _ _ _ => (de_callR (g_zbridge t) (ok.blk.mono (by decide)) takesN rfl t.G_zbridge (dap_head rfl (.inr (.inl rfl)) (da_cons (de_var (i := 2) rfl (.inr (.inl rfl))) da_nil)))))))
  (ds_cons (ds_if (dt_cmp (op_eqA ok.hu) (dp_o (de_callR (g_ztake t) (ok.mono (by decide)) (takes_of rfl rfl rfl rfl) rfl t.G_ztake (dap_head rfl (.inr (.inl rfl)) (da_cons de_int da_nil)))) (dp_o de_int) (nomark _)) (ds_one (ds_set (i := 4) sc_law.nd rfl (.inr rfl) (de_do (do_comp (own := [("_law_one", 14)]) rfl sc_law.nd (di_any (de_var (i := 4) rfl (.inr (.inl rfl)))) (blkOk_by (N := ["_law_script", "_law_bag_here", "_law_calls_here", "_law_offer", "_law_bridges", "_law_reach_here", "_law_above", "_law_more", "_law_found", "_law_first", "_law_then", "_law_last", "_law_row", "_law_k", "_law_one", "_law_major"]) (sc := defScope (topS 13)) (by decide +kernel)) (by decide) (fun _ _ _ _ _ => (dg_name (i := 14) sc_law.nd rfl (.inl rfl))) (fun _ _ _ _ _ => (dts_one (dt_cmp (op_neA ok.blk.hu) (dp_o (de_ix ix_D opD_rD (dp_var (i := 14) rfl (.inl rfl)) (dp_o de_int) (fun _ _ => rfl))) (dp_o (de_ix ix_D opD_rD (dp_o (de_ix ix_D opD_rD (dp_var (i := 3) rfl (.inr (.inl rfl))) (dp_o de_int) (fun _ _ => rfl))) (dp_o de_int) (fun _ _ => rfl))) (nomark _)))) (fun _ _ _ _ _ => (de_tup (da_cons (de_ix ix_D opD_rD (dp_var (i := 2) rfl (.inr (.inl rfl))) (dp_o de_int) (fun _ _ => rfl)) (da_cons (de_ix ix_D opD_rD (dp_o (de_ix ix_D opD_rD (dp_var (i := 3) rfl (.inr (.inl rfl))) (dp_o de_int) (fun _ _ => rfl))) (dp_o de_int) (fun _ _ => rfl)) (da_cons (de_ix ix_D opD_rD (dp_var (i := 14) rfl (.inl rfl)) (dp_o de_int) (fun _ _ => rfl)) (da_cons (de_ix ix_D opD_rD (dp_var (i := 14) rfl (.inl rfl)) (dp_o de_int) (fun _ _ => rfl)) da_nil)))))))))) ds_nil)
  (ds_cons (ds_set (i := 5) sc_law.nd rfl (.inr rfl) (de_call (g_zreach t) (ok.mono (by decide)) (takes_of rfl rfl rfl rfl) rfl t.G_zreach (da_cons (de_var (i := 3) rfl (.inr (.inl rfl))) (da_cons (de_var (i := 4) rfl (.inr (.inl rfl))) da_nil))))
  (ds_cons (ds_if (dt_cmp (op_neA ok.hu) (dp_var (i := 5) rfl (.inr (.inl rfl))) (dp_o (de_do (do_comp (own := [("_law_major", 15)]) rfl sc_law.nd (di_rng1 rfl t.n_range de_int) (blkOk_by (N := ["_law_script", "_law_bag_here", "_law_calls_here", "_law_offer", "_law_bridges", "_law_reach_here", "_law_above", "_law_more", "_law_found", "_law_first", "_law_then", "_law_last", "_law_row", "_law_k", "_law_one", "_law_major"]) (sc := defScope (topS 13)) (by decide +kernel)) (by decide) (fun _ _ _ _ _ => (dg_name (i := 15) sc_law.nd rfl (.inl rfl))) (fun _ _ _ _ _ => dts_nil) (fun _ _ _ _ _ => (de_op op_addD opD_rD (dp_o de_int) (dp_o (de_call (g_zfar t) (ok.blk.mono (by decide)) takesN rfl t.G_zfar (da_cons (de_var (i := 3) rfl (.inr (.inl rfl))) (da_cons (de_var (i := 15) rfl (.inl rfl)) (da_cons (de_var (i := 4) rfl (.inr (.inl rfl))) da_nil)))))))))) (nomark _)) (ds_one (ds_ret de_bl)) ds_nil)
  (ds_cons (ds_set (i := 6) sc_law.nd rfl (.inl rfl) (de_tup (da_cons (de_ix ix_D opD_rD (dp_var (i := 3) rfl (.inr (.inl rfl))) (dp_o de_int) (fun _ _ => rfl)) (da_cons (de_tup (da_cons (de_ix ix_D opD_rD (dp_o (de_ix ix_D opD_rD (dp_var (i := 3) rfl (.inr (.inl rfl))) (dp_o de_int) (fun _ _ => rfl))) (dp_o de_int) (fun _ _ => rfl)) (da_cons (de_callB (call_minD rfl) rfl t.n_min (by decide +kernel) (dl_cons (dp_o de_int) (dl_cons (dp_o (de_op op_addD opD_rD (dp_o (de_op op_addD opD_rD (dp_o (de_ix ix_D opD_rD (dp_o (de_ix ix_D opD_rD (dp_var (i := 3) rfl (.inr (.inl rfl))) (dp_o de_int) (fun _ _ => rfl))) (dp_o de_int) (fun _ _ => rfl))) (dp_o de_int))) (dp_o (de_callR (g_ztake t) (ok.mono (by decide)) (takes_of rfl rfl rfl rfl) rfl t.G_ztake (dap_head rfl (.inr (.inl rfl)) (da_cons de_int da_nil)))))) dl_nil))) da_nil))) da_nil))))
  (ds_cons (ds_set (i := 7) sc_law.nd rfl (.inl rfl) (de_op op_addD opD_rD (dp_var (i := 4) rfl (.inr (.inl rfl))) (dp_o (de_lst (da_cons (de_callR (g_zbridge t) (ok.mono (by decide)) (takes_of rfl rfl rfl rfl) rfl t.G_zbridge (dap_head rfl (.inr (.inl rfl)) (da_cons (de_var (i := 2) rfl (.inr (.inl rfl))) da_nil))) da_nil)))))
  (ds_cons (ds_for (passes_of rfl) rfl (di_any (de_lst (da_cons (de_call (g_zreach t) (ok.mono (by decide)) (takes_of rfl rfl rfl rfl) rfl t.G_zreach (da_cons (de_var (i := 6) rfl (.inl rfl)) (da_cons (de_var (i := 4) rfl (.inr (.inl rfl))) da_nil))) (da_cons (de_call (g_zreach t) (ok.mono (by decide)) (takes_of rfl rfl rfl rfl) rfl t.G_zreach (da_cons (de_var (i := 3) rfl (.inr (.inl rfl))) (da_cons (de_var (i := 7) rfl (.inl rfl)) da_nil))) da_nil)))) (dg_name (i := 8) sc_law.nd rfl (.inr rfl)) (ds_one (ds_if (dt_w (dw_or (dt_cmp op_isD (dp_var (i := 8) rfl (.inr (.inl rfl))) (dp_o de_non) (nomark _)) (dw_or1 (dt_cmp (op_neA ok.hu) (dp_o (de_do (do_comp (own := [("_law_k", 13)]) rfl sc_law.nd (di_rng1 rfl t.n_range de_int) (blkOk_by (N := ["_law_script", "_law_bag_here", "_law_calls_here", "_law_offer", "_law_bridges", "_law_reach_here", "_law_above", "_law_more", "_law_found", "_law_first", "_law_then", "_law_last", "_law_row", "_law_k", "_law_one", "_law_major"]) (sc := defScope (topS 13)) (by decide +kernel)) (by decide) (fun _ _ _ _ _ => (dg_name (i := 13) sc_law.nd rfl (.inl rfl))) (fun _ _ _ _ _ => (dts_one (dt_cmp (op_ltA ok.blk.hu) (dp_o (de_ix ix_D opD_rD (dp_var (i := 8) rfl (.inr (.inl rfl))) (dp_var (i := 13) rfl (.inl rfl)) (fun _ _ => rfl))) (dp_o (de_ix ix_D opD_rD (dp_var (i := 5) rfl (.inr (.inl rfl))) (dp_var (i := 13) rfl (.inl rfl)) (fun _ _ => rfl))) (nomark _)))) (fun _ _ _ _ _ => (de_var (i := 13) rfl (.inl rfl)))))) (dp_o (de_lst da_nil)) (nomark _))))) (ds_one (ds_ret de_bl)) ds_nil)))
  (ds_cons (ds_set (i := 9) sc_law.nd rfl (.inr rfl) (de_ix ix_D opD_rD (dp_o (de_ix ix_D opD_rD (dp_var (i := 3) rfl (.inr (.inl rfl))) (dp_o de_int) (fun _ _ => rfl))) (dp_o de_int) (fun _ _ => rfl)))
  (ds_cons (ds_set (i := 10) sc_law.nd rfl (.inr rfl) (de_op op_modD opD_rD (dp_o (de_op op_addD opD_rD (dp_o (de_op op_addD opD_rD (dp_var (i := 9) rfl (.inr (.inl rfl))) (dp_o de_int))) (dp_o (de_callR (g_ztake t) (ok.mono (by decide)) (takes_of rfl rfl rfl rfl) rfl t.G_ztake (dap_head rfl (.inr (.inl rfl)) (da_cons de_int da_nil)))))) (dp_o de_int)))
  (ds_cons (ds_set (i := 11) sc_law.nd rfl (.inl rfl) (de_ix ix_D opD_rD (dp_o (de_do (do_comp (own := [("_law_k", 13)]) rfl sc_law.nd (di_rng1 rfl t.n_range de_int) (blkOk_by (N := ["_law_script", "_law_bag_here", "_law_calls_here", "_law_offer", "_law_bridges", "_law_reach_here", "_law_above", "_law_more", "_law_found", "_law_first", "_law_then", "_law_last", "_law_row", "_law_k", "_law_one", "_law_major"]) (sc := defScope (topS 13)) (by decide +kernel)) (by decide) (fun _ _ _ _ _ => (dg_name (i := 13) sc_law.nd rfl (.inl rfl))) (fun _ _ _ _ _ => (dts_one (dt_w (dw_and (dt_cmp (op_neA ok.blk.hu) (dp_var (i := 13) rfl (.inl rfl)) (dp_var (i := 9) rfl (.inr (.inl rfl))) (nomark _)) (dw_and1 (dt_cmp (op_neA ok.blk.hu) (dp_var (i := 13) rfl (.inl rfl)) (dp_var (i := 10) rfl (.inr (.inl rfl))) (nomark _))))))) (fun _ _ _ _ _ => (de_var (i := 13) rfl (.inl rfl)))))) (dp_o (de_callR (g_ztake t) (ok.mono (by decide)) (takes_of rfl rfl rfl rfl) rfl t.G_ztake (dap_head rfl (.inr (.inl rfl)) (da_cons de_int da_nil)))) (fun _ _ => rfl)))
  (ds_cons (ds_set (i := 12) sc_law.nd rfl (.inl rfl) (de_lst (da_cons (de_tup (da_cons (de_ix ix_D opD_rD (dp_var (i := 3) rfl (.inr (.inl rfl))) (dp_o de_int) (fun _ _ => rfl)) (da_cons (de_var (i := 9) rfl (.inr (.inl rfl))) (da_cons (de_var (i := 10) rfl (.inr (.inl rfl))) (da_cons de_int da_nil))))) (da_cons (de_tup (da_cons (de_ix ix_D opD_rD (dp_var (i := 3) rfl (.inr (.inl rfl))) (dp_o de_int) (fun _ _ => rfl)) (da_cons (de_var (i := 10) rfl (.inr (.inl rfl))) (da_cons (de_var (i := 11) rfl (.inl rfl)) (da_cons de_int da_nil))))) da_nil))))
  (ds_cons (ds_if (dt_cmp op_isnD (dp_o (de_call (g_meets t) (ok.mono (by decide)) (takes_of rfl rfl rfl rfl) rfl t.G_meets (da_cons (de_var (i := 3) rfl (.inr (.inl rfl))) (da_cons (de_tup (da_cons (de_ix ix_D opD_rD (dp_var (i := 3) rfl (.inr (.inl rfl))) (dp_o de_int) (fun _ _ => rfl)) (da_cons (de_tup (da_cons (de_var (i := 11) rfl (.inl rfl)) (da_cons de_int da_nil))) da_nil))) (da_cons (de_var (i := 12) rfl (.inl rfl)) da_nil))))) (dp_o de_non) (nomark _)) (ds_one (ds_ret de_bl)) ds_nil)
  (ds_cons (ds_if (dt_cmp op_isnD (dp_o (de_call (g_meets t) (ok.mono (by decide)) (takes_of rfl rfl rfl rfl) rfl t.G_meets (da_cons (de_tup (da_cons (de_ix ix_D opD_rD (dp_var (i := 2) rfl (.inr (.inl rfl))) (dp_o de_int) (fun _ _ => rfl)) (da_cons (de_tup (da_cons de_int (da_cons de_int da_nil))) da_nil))) (da_cons (de_tup (da_cons (de_ix ix_D opD_rD (dp_var (i := 3) rfl (.inr (.inl rfl))) (dp_o de_int) (fun _ _ => rfl)) (da_cons (de_tup (da_cons de_int (da_cons de_int da_nil))) da_nil))) (da_cons (de_var (i := 7) rfl (.inl rfl)) da_nil))))) (dp_o de_non) (nomark _)) (ds_one (ds_ret de_bl)) ds_nil)
  (ds_one (ds_ret (de_cmp (op_eqA ok.hu) opD_rD (dp_o (de_call (g_zreach t) (ok.mono (by decide)) (takes_of rfl rfl rfl rfl) rfl t.G_zreach (da_cons (de_var (i := 3) rfl (.inr (.inl rfl))) (da_cons (de_var (i := 4) rfl (.inr (.inl rfl))) da_nil)))) (dp_var (i := 5) rfl (.inr (.inl rfl))) (nomark _))))))))))))))))))))
end
def e_lifts : He.DefD := ⟨("lifts", none), "lifts", "lifts", defArgs (topS 2), defBody (topS 2), defScope (topS 2), [], []⟩
def e_meets : He.DefD := ⟨("meets", none), "meets", "meets", defArgs (topS 3), defBody (topS 3), defScope (topS 3), [], []⟩
def e_zbag : He.DefD := ⟨("_law_bag", none), "_law_bag", "_law_bag", defArgs (topS 5), defBody (topS 5), defScope (topS 5), [], []⟩
def e_ztake : He.DefD := ⟨("_law_take", none), "_law_take", "_law_take", defArgs (topS 6), defBody (topS 6), defScope (topS 6), [], []⟩
def e_zword : He.DefD := ⟨("_law_word", none), "_law_word", "_law_word", defArgs (topS 7), defBody (topS 7), defScope (topS 7), [], []⟩
def e_zversion : He.DefD := ⟨("_law_version", none), "_law_version", "_law_version", defArgs (topS 8), defBody (topS 8), defScope (topS 8), [], []⟩
def e_zcalls : He.DefD := ⟨("_law_calls", none), "_law_calls", "_law_calls", defArgs (topS 9), defBody (topS 9), defScope (topS 9), [], []⟩
def e_zbridge : He.DefD := ⟨("_law_bridge", none), "_law_bridge", "_law_bridge", defArgs (topS 10), defBody (topS 10), defScope (topS 10), [], []⟩
def e_zfar : He.DefD := ⟨("_law_far", none), "_law_far", "_law_far", defArgs (topS 11), defBody (topS 11), defScope (topS 11), [], []⟩
def e_zreach : He.DefD := ⟨("_law_reach", none), "_law_reach", "_law_reach", defArgs (topS 12), defBody (topS 12), defScope (topS 12), [], []⟩
def e_law : He.DefD := ⟨("law", none), "law", "law", defArgs (topS 13), defBody (topS 13), defScope (topS 13), [], []⟩
def fn : List He.DefD := [e_lifts, e_meets, e_zbag, e_ztake, e_zword, e_zversion, e_zcalls, e_zbridge, e_zfar, e_zreach, e_law]
def fa : List He.Fa := [.glo "lifts", .glo "meets", .glo "_law_bag", .glo "_law_take", .glo "_law_word", .glo "_law_version", .glo "_law_calls", .glo "_law_bridge", .glo "_law_far", .glo "_law_reach", .glo "law", .free "abs", .free "len", .free "max", .free "range", .free "min", .str "SAME" "same"]
def loose : List PySem.Str := ["lifts", "meets", "_law_bag", "_law_take", "_law_word", "_law_version", "_law_calls", "_law_bridge", "_law_far", "_law_reach", "SAME"]
abbrev R : PySem.W.OpenRow := PySem.W.OpenLaw.row PySem.Challenge.rw_plughall_k14_whole_how_far_an_offer_goes
abbrev hk : PySem.W.Hook := He.hookD 4 fa fn
def ob (s : PySem.W.SharedT) : He.AlD := He.obsDG 4 fa fn (HandSHeadRun.getT s)
theorem ob_eq (s : PySem.W.SharedT) : ob s = hk.obs s.abs := He.obsDG_eq (HandSHeadRun.getT_eq s)
theorem run (w : World) : HandSHeadRun.RunEq R (PySem.W.view R.prog [13]) hk ob 1240 loose w := by
  intro os
  kernel_rfl
theorem facts {P : Program} {w : World} {K : PySem.W.Frag} {h : Heap} {mg : Str → Option Value} {f : Addr} (X : K.In h) (G : h.Ns mainGlobals mg) (hfa : mg ("law" : Str) = some (.ref f)) (c : He.SaysD fa fn K) :
    ∃ fd : FuncData, (∀ (s : Shared) (v : Value), BindsTo s fd ⟨[v], []⟩ [("_law_script", v)]) ∧ ∀ base : Heap, K.In base → base.Ns mainGlobals mg → FnG P w K mg base 4 f fd ["_law_script"] m_law := by
  obtain ⟨d_lifts, F_lifts⟩ := c.def_ 0 (d := e_lifts) rfl
  obtain ⟨d_meets, F_meets⟩ := c.def_ 1 (d := e_meets) rfl
  obtain ⟨d_zbag, F_zbag⟩ := c.def_ 2 (d := e_zbag) rfl
  obtain ⟨d_ztake, F_ztake⟩ := c.def_ 3 (d := e_ztake) rfl
  obtain ⟨d_zword, F_zword⟩ := c.def_ 4 (d := e_zword) rfl
  obtain ⟨d_zversion, F_zversion⟩ := c.def_ 5 (d := e_zversion) rfl
  obtain ⟨d_zcalls, F_zcalls⟩ := c.def_ 6 (d := e_zcalls) rfl
  obtain ⟨d_zbridge, F_zbridge⟩ := c.def_ 7 (d := e_zbridge) rfl
  obtain ⟨d_zfar, F_zfar⟩ := c.def_ 8 (d := e_zfar) rfl
  obtain ⟨d_zreach, F_zreach⟩ := c.def_ 9 (d := e_zreach) rfl
  obtain ⟨d_law, F_law⟩ := c.def_ 10 (d := e_law) rfl
  have e := hfa.symm.trans (He.glo_ok X G (c.fact 10 (f := .glo "law") rfl))
  cases e
  have b := FunD.bindsA (ps := ["_law_script"]) F_law fun _ _ _ _ _ _ us hl => match us, hl with | [_], _ => rfl
  let t : T K mg := {
    a_lifts := _, d_lifts := d_lifts, F_lifts := funOf F_lifts, G_lifts := He.glo_ok X G (c.fact 0 (f := .glo "lifts") rfl)
    a_meets := _, d_meets := d_meets, F_meets := funOf F_meets, G_meets := He.glo_ok X G (c.fact 1 (f := .glo "meets") rfl)
    a_zbag := _, d_zbag := d_zbag, F_zbag := funOf F_zbag, G_zbag := He.glo_ok X G (c.fact 2 (f := .glo "_law_bag") rfl)
    a_ztake := _, d_ztake := d_ztake, F_ztake := funOf F_ztake, G_ztake := He.glo_ok X G (c.fact 3 (f := .glo "_law_take") rfl)
    a_zword := _, d_zword := d_zword, F_zword := funOf F_zword, G_zword := He.glo_ok X G (c.fact 4 (f := .glo "_law_word") rfl)
    a_zversion := _, d_zversion := d_zversion, F_zversion := funOf F_zversion, G_zversion := He.glo_ok X G (c.fact 5 (f := .glo "_law_version") rfl)
    a_zcalls := _, d_zcalls := d_zcalls, F_zcalls := funOf F_zcalls, G_zcalls := He.glo_ok X G (c.fact 6 (f := .glo "_law_calls") rfl)
    a_zbridge := _, d_zbridge := d_zbridge, F_zbridge := funOf F_zbridge, G_zbridge := He.glo_ok X G (c.fact 7 (f := .glo "_law_bridge") rfl)
    a_zfar := _, d_zfar := d_zfar, F_zfar := funOf F_zfar, G_zfar := He.glo_ok X G (c.fact 8 (f := .glo "_law_far") rfl)
    a_zreach := _, d_zreach := d_zreach, F_zreach := funOf F_zreach, G_zreach := He.glo_ok X G (c.fact 9 (f := .glo "_law_reach") rfl)
    a_law := _, d_law := d_law, F_law := funOf F_law, G_law := He.glo_ok X G (c.fact 10 (f := .glo "law") rfl)
    n_abs := He.free_ok X G (c.fact 11 (f := .free "abs") rfl)
    n_len := He.free_ok X G (c.fact 12 (f := .free "len") rfl)
    n_max := He.free_ok X G (c.fact 13 (f := .free "max") rfl)
    n_range := He.free_ok X G (c.fact 14 (f := .free "range") rfl)
    n_min := He.free_ok X G (c.fact 15 (f := .free "min") rfl)
    c_SAME := He.str_ok X G (c.fact 16 (f := .str "SAME" "same") rfl) }
  exact ⟨_, fun s v => b s [v] rfl, fun base _ _ => g_law t⟩
end k14

set_option Elab.async false
set_option linter.all false
set_option maxRecDepth 100000
set_option maxHeartbeats 0
namespace k14
open PySem PySem.Spec PyProof.Rows L2 Dl TL
open k13 (Of Br ofD brD ofOk brOk sm dueV does)
local macro_rules
  | `(tactic| simp! [$ls,*]) => `(tactic| simp only [
    bind_ok, bind_err, bindS_ok, bindS_err, of_some, slot0, slotS, rdVar_e, rdC_val, rdC_own, cellD_val, cellD_own, cellD_ref, pkVar_e, pkC_some,
    opd_tmp, opd_var, lendC_own, lendC_ref, stor_n, stor_v, stor_o, stor_hit, eq_self, stor_next, map_some', soft_none, soft_val, soft_own, fC_e,
    fOf_e, ofK_e, op2_e, fBin_e, bin1_e, bin2_e, op1_e, fUn_e, un1_e, fNil_e, fCons_e, cons1_e, cons2_e, apCons_e, fTup_e, fLst_e, tup1_e, lst1_e,
    lNil_e, lCons_e, lc1_e, lc2_e, opL_nil, opL_cons, op2L_e, opN_e, fCall_e, call1_e, fIsi_e, isi1_e, fMeth_e, meth1_e, methT_s, methT_l, meth2_e, opM_e,
    fSlice_e, sl1_e, sl2_e, sl3_e, ptNone_e, ptSome_e, toPt_e, toB_e, fB_e, fChain_e, ch1_e, ch2_e, ch3_t, ch3_f, ch4_e, fAnd_e, fOr_e, fNot_e, and1_t,
    and1_f, or1_t, or1_f, not1_e, fAndV_e, fOrV_e, fNotV_e, andV1_t, andV1_f, orV1_t, orV1_f, notV1_e, fIf_e, if1_t, if1_f, fV_e, fVO_e, v1_e, vO1_e,
    cellRes_ok, toVal_v, toVal_o, toOwn_o, mapV0, mapV1, apHead_e, apH1_e, apH2_e, fR_e, r1_e, r2_0, r2_1, back1_0, back1_S, backC_own, backC_ref,
    cellResR_e, cR_ref, cR_none, sSeq_e, seq1_n, seq1_r, seq1_b, seq1_c, sNext_e, sDrop_e, drop1_e, sRet_e, sRetO_e, ret1_e, retO1_e, sRetN_e, sRetV_e,
    retC_v, retC_o, nextO_e, sSet_e, sSetO_e, set1_e, setO1_e, bName_e, bNil_e, bCons_e, bCons1_e, sAsg_e, asg1_e, storN_e, par1_e, sAugN_e, augN0_e,
    augN1_e, sIf_e, sif1_t, sif1_f, sFor_e, sfor1_e, iAny_e, anyI_l, anyI_t, anyI_s, iRng1_e, atI_0, atI_1, atI_2, atI_3, atI_4, atI_5, atI_6, atI_7,
    atI_8, atI_9, atI_10, atI_11, atI_12, atN_0, atN_S, lset_0, lset_S, mapc, putN_e, sItem_e, item1_e, item2_e, item3_e, item4_0, item4_1, item4_2,
    item4_3, item4_4, item4_5, item4_6, item4_7, item4_8, item4_9, sAugI_e, augIs_e, augIk_e, augI0_0, augI0_1, augI0_2, augI0_3, augI0_4, augI0_5,
    augI1_e, augI2_e, augI3_e, sApp_e, app0_e, app1_e, mir_e, runBody_e, fin_r, fin_n, outs_n, outs_v, outs_r, addF_i, subF_i, eqF_i, eqF_s, neF_i,
    neF_s, ltF_i, gtF_i, leF_i, geF_i, isF_n, isnF_n, itF_l, itF_t, lenF_l, lenF_t, absF_i, intF_i, intF_b, negF_i, revF_l, maxF_i, minF_i, listF_l,
    listF_t, sliceF_l, sliceF_t, List.length_map, List.set_cons_zero, List.set_cons_succ, Int.reducePow, Int.reduceNeg, Int.reduceLT, Int.reduceLE,
    Int.reduceMod, Int.cast_ofNat_Int, Int.natCast_add, Int.reduceAdd, Int.reduceSub, Int.reduceMul, Int.reduceDiv, Int.reduceToNat, decide_true, decide_false, if_true, if_false, and_self, Nat.reduceAdd, Nat.reduceSub,
    Nat.reduceLeDiff, List.length_cons, List.length_nil, List.map_cons, List.map_nil, List.cons_append, List.nil_append, List.replicate, mulF_l,
    mulF_r, modF_i, divF_i,    forV_e, forVc_v, forVc_r, forVc_o, map_n, map_r, r2_2, lOne_e, lOne1_e, opN2_e, fCallK_e, ck1_e, ck2_e,
 $ls,*])
theorem take_m : m_ztake = Bag.m_ztake := rfl
theorem bag_m : m_zbag = Bag.m_zbag := rfl
theorem take_e (b : Bg) (m : Int) (h0 : 0 < m) (h1 : m < 18446744073709551616) : m_ztake [.ref (bagD b), .val (.int m)] = .ok (.val (.int (takeV b m))) [some (.ref (bagD (takeB b m))), none] := by
  rw [take_m]
  exact Bag.take_e b m h0 h1
theorem start (np n : Nat) (F : Fs) (cells : List Cell) (h : cells.length = np) : mir np n F cells = fin cells (F (cells.map some ++ List.replicate (n - cells.length) none)) := by rw [mir_e h, runBody_e]
theorem word_m : m_zword = k13.m_zword := rfl
theorem version_m : m_zversion = k13.m_zversion := rfl
theorem bridge_m : m_zbridge = k13.m_zbridge := rfl
theorem calls_m : m_zcalls = k13.m_zcalls := rfl
theorem meets_m : m_meets = k13.m_meets := rfl
theorem lets_n : ∀ n : Fin 26, (tl k13.lets).getD n.val 0 = 97 + n.val := by decide +kernel
open k13 (wordV wordB word_e word_w sgn_at lets_at let_ok put_ok ix_let lets cut_take) in
theorem calls_ne (b : Bg) : ∃ (w v : Str) (r : List Str) (b' : Bg), m_zcalls [.ref (bagD b)] = .ok (.val (.list ((w :: v :: r).map .str))) [some (.ref (bagD b'))] ∧ w ≠ v ∧ r.length ≤ 1 ∧ ∀ x ∈ w :: v :: r, IsW 8 x := by
  rw [calls_m]
  have hw := word_w b
  obtain ⟨w1, w2, w3⟩ := word_w b
  have u0 := takeV_nn (b := wordB b) (m := (wordV b).length) (by omega)
  have u1 := takeV_lt (b := wordB b) (m := (wordV b).length) (by omega)
  obtain ⟨c, ec, c1, c2⟩ := sgn_at hw (by omega) u0 u1
  have ei := ix_let c1 c2
  obtain ⟨b2, eb2⟩ : ∃ b2, b2 = takeB (wordB b) (wordV b).length := ⟨_, rfl⟩
  have v0 := takeV_nn (b := b2) (m := 25) (by omega)
  have v1 := takeV_lt (b := b2) (m := 25) (by omega)
  have y0 : 0 ≤ ((((c - 97 : Nat) : Int) + 1) + takeV b2 25) % 26 := Int.emod_nonneg _ (by omega)
  have y1 : ((((c - 97 : Nat) : Int) + 1) + takeV b2 25) % 26 < 26 := Int.emod_lt_of_pos _ (by omega)
  have el := lets_at y0 y1
  have ll := let_ok y0 y1
  have ln := lets_n ⟨(((((c - 97 : Nat) : Int) + 1) + takeV b2 25) % 26).toNat, by omega⟩
  dsimp only at ln
  obtain ⟨k, ek⟩ : ∃ k : Nat, takeV (wordB b) (wordV b).length = (k : Int) := ⟨(takeV (wordB b) (wordV b).length).toNat, by omega⟩
  have hk : k < (wordV b).length := by omega
  have pw := put_ok hw hk ll
  have z0 := takeV_nn (b := takeB b2 25) (m := 2) (by omega)
  have z1 := takeV_lt (b := takeB b2 25) (m := 2) (by omega)
  have m1 : ((wordV b).length : Int) < 18446744073709551616 := by omega
  have m0 : (0 : Int) < ((wordV b).length : Int) := by omega
  have lw : (wordV b).length ≤ 1000000 := by omega
  obtain ⟨q, eq⟩ : ∃ q : Nat, (tl lets).getD (((((c - 97 : Nat) : Int) + 1) + takeV b2 25) % 26).toNat 0 = q := ⟨_, rfl⟩
  rw [eq] at el ll ln pw
  have n1 : (cutS (wordV b) none (some (k : Int))).length + 1 + (cutS (wordV b) (some ((k : Int) + 1)) none).length ≤ 1000000 := by
    have := pw.2.1
    rw [len_add, len_add] at this
    have : (⟨#[q]⟩ : Str).length = 1 := rfl
    omega
  have ne : wordV b ≠ cutS (wordV b) none (some (k : Int)) ++ ⟨#[q]⟩ ++ cutS (wordV b) (some ((k : Int) + 1)) none := fun z => by
    have lt := len_tl (wordV b)
    have e1 : (tl (wordV b))[k]? = some c := by
      rw [ek, itF_s lw] at ec
      have ec2 : (atI (tl (wordV b)) (k : Int)).map (fun c => PyData.str ⟨#[c]⟩) = some (.str ⟨#[c]⟩) := ec
      rw [atI_nat', atN_get] at ec2
      obtain ⟨x, ex, e2⟩ := Option.map_eq_some_iff.mp ec2
      injection e2 with e2
      injection e2 with e2
      rw [ex]
      have : x = c := by simpa using e2
      rw [this]
    have e2 : (tl (cutS (wordV b) none (some (k : Int)) ++ ⟨#[q]⟩ ++ cutS (wordV b) (some ((k : Int) + 1)) none))[k]? = some q := by
      rw [tl_append, tl_append, k13.cut_lo _ _ (by omega)]
      rw [List.append_assoc, List.getElem?_append_right (by rw [List.length_take]; omega), List.length_take]
      have : k - min k (tl (wordV b)).length = 0 := by omega
      rw [this]
      rfl
    rw [← z, e1] at e2
    injection e2 with e2
    omega
  have a1 : addF (.str (cutS (wordV b) none (some (k : Int)))) (.str ⟨#[q]⟩) = some (.str (cutS (wordV b) none (some (k : Int)) ++ ⟨#[q]⟩)) := addF_s (by
    show _ + 1 ≤ _
    omega)
  have a2 : addF (.str (cutS (wordV b) none (some (k : Int)) ++ ⟨#[q]⟩)) (.str (cutS (wordV b) (some ((k : Int) + 1)) none)) = some (.str (cutS (wordV b) none (some (k : Int)) ++ ⟨#[q]⟩ ++ cutS (wordV b) (some ((k : Int) + 1)) none)) := addF_s (by
    rw [len_add]
    show _ + 1 + _ ≤ _
    omega)
  refine ⟨wordV b, cutS (wordV b) none (some (k : Int)) ++ ⟨#[q]⟩ ++ cutS (wordV b) (some ((k : Int) + 1)) none, (["load"] : List Str).take (takeV (takeB b2 25) 2).toNat, takeB (takeB b2 25) 2, ?_, ne, by rw [List.length_take]; show min _ 1 ≤ 1; omega, fun x m => ?_⟩
  · unfold k13.m_zcalls
    rw [start _ _ _ _ (by rfl)]
    unfold k13.F_zcalls
    unfold lets at ei el
    have s1 := @sliceF_s (wordV b) none (some (k : Int)) lw
    have s2 := @sliceF_s (wordV b) (some ((k : Int) + 1)) none lw
    rw [ek] at ec
    rw [sSeq_e, sPar_e (by decide)]
    have tk := k13.take_e
    simp! [tk, word_e, lenF_s, lw, m0, m1, ek, ec, ei, ← eb2, el, s1, s2, a1, a2]
    rw [cut_take _ (by omega), show (2 + takeV (takeB b2 25) 2).toNat = (takeV (takeB b2 25) 2).toNat + 1 + 1 by omega, List.take_succ_cons, List.take_succ_cons, List.map_take]
    rfl
  · rcases List.mem_cons.mp m with rfl | m
    · exact hw
    · rcases List.mem_cons.mp m with rfl | m
      · exact pw
      · have := List.mem_of_mem_take m
        rw [List.mem_singleton.mp this]
        decide +kernel
/-! bridges of unlike majors -/
def rOk (r : Br) : Prop := IsW 8 r.w ∧ (0 ≤ r.a ∧ r.a < 10) ∧ (0 ≤ r.o ∧ r.o < 10) ∧ (0 ≤ r.m ∧ r.m < 10) ∧ r.a ≠ r.o
theorem bridge_ok (b : Bg) (l : List Str) (h1 : 1 ≤ l.length) (h2 : l.length ≤ 3) (hl : ∀ w ∈ l, IsW 8 w) : ∃ (r : Br) (b' : Bg), m_zbridge [.ref (bagD b), .val (.list (l.map .str))] = .ok (.val (brD r)) [some (.ref (bagD b')), none] ∧ rOk r := by
  have u0 := takeV_nn (b := b) (m := 10) (by omega)
  have u1 := takeV_lt (b := b) (m := 10) (by omega)
  have x0 := takeV_nn (b := takeB b 10) (m := 9) (by omega)
  have x1 := takeV_lt (b := takeB b 10) (m := 9) (by omega)
  have v0 := takeV_nn (b := takeB (takeB b 10) 9) (m := (l.length : Int)) (by omega)
  have v1 := takeV_lt (b := takeB (takeB b 10) 9) (m := (l.length : Int)) (by omega)
  have w0 := takeV_nn (b := takeB (takeB (takeB b 10) 9) (l.length : Int)) (m := 10) (by omega)
  have w1 := takeV_lt (b := takeB (takeB (takeB b 10) 9) (l.length : Int)) (m := 10) (by omega)
  have at_ := atI_map l PyData.str v0 (by omega) ""
  have m0 : (0 : Int) < (l.length : Int) := by omega
  have m1 : (l.length : Int) < 18446744073709551616 := by omega
  refine ⟨⟨l.getD (takeV (takeB (takeB b 10) 9) (l.length : Int)).toNat "", takeV b 10, ((takeV b 10 + 1) + takeV (takeB b 10) 9) % 10, takeV (takeB (takeB (takeB b 10) 9) (l.length : Int)) 10⟩, takeB (takeB (takeB (takeB b 10) 9) (l.length : Int)) 10, ?_, hl _ (getD_mem (by omega)), ⟨u0, u1⟩, ⟨by dsimp only; omega, by dsimp only; omega⟩, ⟨w0, w1⟩, by dsimp only; omega⟩
  unfold m_zbridge
  rw [start _ _ _ _ (by rfl)]
  unfold F_zbridge
  simp! [take_e, m0, m1, at_, brD]
/-! how far an offer goes -/
def toM (o : Of) (M : Int) (r : Br) : Bool := decide (r.w = o.w) && (decide (r.a = o.a) && decide (r.o = M))
def big (l : List Int) : Int := l.foldl max (-1)
def far (o : Of) (M : Int) (l : List Br) : Int := if o.a = M then o.b else big ((l.filter (toM o M)).map (·.m))
theorem fold_ge : ∀ (l : List Int) (a m : Int), m ≤ l.foldl max a ↔ m ≤ a ∨ ∃ x ∈ l, m ≤ x
  | [], a, m => by simp
  | x :: l, a, m => by
    have ih := fold_ge l (max a x) m
    simp only [List.foldl_cons, List.mem_cons, exists_eq_or_imp]
    rw [ih]
    have : m ≤ max a x ↔ m ≤ a ∨ m ≤ x := by omega
    rw [this, or_assoc]
theorem big_ge (l : List Int) (m : Int) (h : 0 ≤ m) : m ≤ big l ↔ ∃ x ∈ l, m ≤ x := by
  unfold big
  rw [fold_ge]
  constructor
  · rintro (h | h)
    · omega
    · exact h
  · exact .inr
theorem big_lo (l : List Int) : -1 ≤ big l := (fold_ge l (-1) (-1)).mpr (.inl (Int.le_refl _))
theorem big_hi : ∀ (l : List Int), (∀ x ∈ l, x < 10) → big l < 10 := by
  have go : ∀ (l : List Int) (a : Int), a < 10 → (∀ x ∈ l, x < 10) → l.foldl max a < 10 := by
    intro l
    induction l with
    | nil => intro a h _; exact h
    | cons x l ih =>
      intro a h k
      have := k x List.mem_cons_self
      exact ih (max a x) (by omega) fun y m => k y (List.mem_cons_of_mem _ m)
  exact fun l h => go l (-1) (by omega) h
theorem far_lo (o : Of) (M : Int) (l : List Br) (h : 0 ≤ o.b) : -1 ≤ far o M l := by
  unfold far
  split
  · omega
  · exact big_lo _
theorem far_hi (o : Of) (M : Int) (l : List Br) (h : o.b < 10) (hl : ∀ r ∈ l, rOk r) : far o M l < 10 := by
  unfold far
  split
  · exact h
  · refine big_hi _ fun x m => ?_
    obtain ⟨r, mr, rfl⟩ := List.mem_map.mp m
    exact (hl r (List.mem_filter.mp mr).1).2.2.2.1.2
theorem met_iff (o : Of) (M m : Int) (l : List Br) (hl : ∀ r ∈ l, rOk r) (hm : 0 ≤ m) : isNoneD (dueV o ⟨o.w, M, m⟩ l) = !decide (m < 1 + far o M l) := by
  unfold dueV far
  dsimp only
  rw [if_pos rfl]
  have fnd : (∃ r, l.find? (does o ⟨o.w, M, m⟩) = some r) ↔ ∃ r ∈ l, toM o M r = true ∧ m ≤ r.m := by
    constructor
    · rintro ⟨r, h⟩
      have h1 := List.find?_some h
      have h2 := List.mem_of_find?_eq_some h
      unfold k13.does at h1
      rw [Bool.and_eq_true, decide_eq_true_eq] at h1
      exact ⟨r, h2, h1.1, h1.2⟩
    · rintro ⟨r, h1, h2, h3⟩
      cases q : l.find? (does o ⟨o.w, M, m⟩) with
      | some r' => exact ⟨r', rfl⟩
      | none =>
        have := List.find?_eq_none.mp q r h1
        unfold k13.does at this
        rw [Bool.and_eq_true, decide_eq_true_eq] at this
        exact absurd ⟨h2, h3⟩ this
  by_cases ha : o.a = M
  · by_cases hb : m ≤ o.b
    · rw [if_pos ⟨ha, hb⟩, if_pos ha, Bag.dt (show m < 1 + o.b by omega)]
      rfl
    · rw [if_neg (fun z => hb z.2), if_pos ha, Bag.df (show ¬ m < 1 + o.b by omega)]
      cases q : l.find? (does o ⟨o.w, M, m⟩) with
      | none => rfl
      | some r =>
        obtain ⟨r', h1, h2, _⟩ := fnd.mp ⟨r, q⟩
        unfold toM at h2
        simp only [Bool.and_eq_true, decide_eq_true_eq] at h2
        have := (hl r' h1).2.2.2.2
        omega
  · rw [if_neg (fun z => ha z.1), if_neg ha]
    have e : m < 1 + big ((l.filter (toM o M)).map (·.m)) ↔ ∃ r ∈ l, toM o M r = true ∧ m ≤ r.m := by
      rw [Int.lt_iff_add_one_le, show m + 1 ≤ 1 + big ((l.filter (toM o M)).map (·.m)) ↔ m ≤ big ((l.filter (toM o M)).map (·.m)) by omega, big_ge _ _ hm]
      constructor
      · rintro ⟨x, hx, h⟩
        obtain ⟨r, mr, rfl⟩ := List.mem_map.mp hx
        obtain ⟨m1, m2⟩ := List.mem_filter.mp mr
        exact ⟨r, m1, m2, h⟩
      · rintro ⟨r, h1, h2, h3⟩
        exact ⟨r.m, List.mem_map.mpr ⟨r, List.mem_filter.mpr ⟨h1, h2⟩, rfl⟩, h3⟩
    cases q : l.find? (does o ⟨o.w, M, m⟩) with
    | none =>
      rw [Bag.df fun z => by
        obtain ⟨r, h⟩ := fnd.mpr (e.mp z)
        rw [q] at h
        cases h]
      rfl
    | some r => 
      rw [Bag.dt (e.mpr (fnd.mp ⟨r, q⟩))]
      rfl
/-! reach -/
def ivals (f : Nat → Int) (n : Nat) : List D := (List.range n).map fun k => .int (f k)
theorem rng10 : rngL 0 10 = (List.range 10).map fun k => PyData.int (k : Nat) := by
  unfold rngL
  exact List.map_congr_left fun k _ => by rw [Int.zero_add]
theorem count10 : ∀ n : Fin 11, (((List.range 10).map fun k : Nat => PyData.bool (decide ((k : Int) < (n.val : Nat)))).filter fun d => match d with | .bool b => b | _ => false).length = n.val := by decide +kernel
def isT : D → Bool
  | .bool b => b
  | _ => false
theorem okEq_flat (xs ys : List D) (hx : ∀ d ∈ xs, d.plain = true ∧ d.depth ≤ 40) (hy : ∀ d ∈ ys, d.plain = true ∧ d.depth ≤ 40) : okEq (.list xs) (.list ys) = true := by
  unfold okEq
  have p1 : PyData.plainAll xs = true := k13.plain_all xs fun d m => (hx d m).1
  have p2 : PyData.plainAll ys = true := k13.plain_all ys fun d m => (hy d m).1
  have p3 := k13.depth_all 40 xs fun d m => (hx d m).2
  simp only [PyData.plain, p1, p2, Bool.true_and]
  exact decide_eq_true (Nat.le_trans (Nat.min_le_left _ _) (by
    simp only [PyData.depth]
    omega))
theorem reach_turn (o : Of) (l : List Br) (hl : ∀ r ∈ l, rOk r) (hb : 0 ≤ o.b ∧ o.b < 10) (fs : List D) (hf : fs.length < 1000) (M : Int) (x4 x5 : Option Cell) (h4 : soft x4 = true) (h5 : soft x5 = true) :
    ∃ y4 y5, soft y4 = true ∧ soft y5 = true ∧ Y_zreach_4 [some (.val (ofD o)), some (.val (.list (l.map brD))), some (.own (.list fs)), some (.val (.int M)), x4, x5, none, none] =
      .next [some (.val (ofD o)), some (.val (.list (l.map brD))), some (.own (.list (fs ++ [.int (1 + far o M l)]))), some (.val (.int M)), y4, y5, none, none] := by
  have n0 := far_lo o M l hb.1
  have n1 := far_hi o M l hb.2 hl
  obtain ⟨n, en⟩ : ∃ n : Nat, 1 + far o M l = (n : Int) := ⟨(1 + far o M l).toNat, by omega⟩
  have me : ∀ m : Int, m_meets [.val (ofD o), .val (.tuple [.str o.w, .tuple [.int M, .int m]]), .val (.list (l.map brD))] = .ok (.val (dueV o ⟨o.w, M, m⟩ l)) [none, none, none] := fun m => by
    rw [meets_m]
    exact k13.meets_e o ⟨o.w, M, m⟩ l
  have mi : ∀ k : Nat, isNoneD (dueV o ⟨o.w, M, (k : Int)⟩ l) = !decide ((k : Int) < (n : Nat)) := fun k => by rw [met_iff o M k l hl (by omega), en]
  obtain ⟨met, emet⟩ : ∃ met : List D, met = (List.range 10).map fun k : Nat => PyData.bool (decide ((k : Int) < (n : Nat))) := ⟨_, rfl⟩
  have c1 := comp_map (i := 6) (I := I_zreach_1) (T := fYes) (E := E_zreach_1) (δ := [some (.val (ofD o)), some (.val (.list (l.map brD))), some (.own (.list fs)), some (.val (.int M)), x4, x5, none, none]) (δ1 := [some (.val (ofD o)), some (.val (.list (l.map brD))), some (.own (.list fs)), some (.val (.int M)), x4, x5, none, none]) (ds := rngL 0 10)
    (fun _ => true) (fun d => match d with | .int m => .bool (!isNoneD (dueV o ⟨o.w, M, m⟩ l)) | _ => .none)
    (by
      unfold I_zreach_1
      simp! []
      rw [rng1_e (by omega) (by omega)]
      rfl) (by simp) rfl (by simp [rngL]) (fun d hd => by
      rw [rng10] at hd
      obtain ⟨k, _, rfl⟩ := List.mem_map.mp hd
      refine ⟨rfl, fun _ => ?_⟩
      unfold E_zreach_1
      have me' := me k
      generalize m_meets = mm at me' ⊢
      unfold k13.ofD at me' ⊢
      simp! [me'])
  have e1 : ((rngL 0 10).filter fun _ => true).map (fun d => match d with | .int m => PyData.bool (!isNoneD (dueV o ⟨o.w, M, m⟩ l)) | _ => .none) = met := by
    rw [emet, rng10, List.filter_eq_self.mpr (fun _ _ => rfl), List.map_map]
    exact List.map_congr_left fun k _ => by
      show PyData.bool (!isNoneD (dueV o ⟨o.w, M, (k : Int)⟩ l)) = _
      rw [mi k, Bool.not_not]
  rw [e1] at c1
  have c2 := comp_map (i := 7) (I := I_zreach_2) (T := T_zreach_2) (E := E_zreach_2) (δ := [some (.val (ofD o)), some (.val (.list (l.map brD))), some (.own (.list fs)), some (.val (.int M)), some (.own (.list met)), x5, none, none]) (δ1 := [some (.val (ofD o)), some (.val (.list (l.map brD))), some (.own (.list fs)), some (.val (.int M)), some (.val (.list met)), x5, none, none]) (ds := met)
    isT id (by
      unfold I_zreach_2
      simp! []) (by simp) rfl (by rw [emet]; simp) (fun d hd => by
      rw [emet] at hd
      obtain ⟨k, _, rfl⟩ := List.mem_map.mp hd
      refine ⟨?_, fun _ => ?_⟩
      · unfold T_zreach_2
        simp! [isT]
      · unfold E_zreach_2
        simp! [id])
  have e2 : ((met.filter isT).map id).length = n := by
    have := count10 ⟨n, by omega⟩
    rw [List.length_map, emet]
    exact this
  have c3 := comp_map (i := 6) (I := I_zreach_3) (T := fYes) (E := E_zreach_3) (δ := [some (.val (ofD o)), some (.val (.list (l.map brD))), some (.own (.list fs)), some (.val (.int M)), some (.val (.list met)), some (.val (.int (n : Nat))), none, none]) (δ1 := [some (.val (ofD o)), some (.val (.list (l.map brD))), some (.own (.list fs)), some (.val (.int M)), some (.val (.list met)), some (.val (.int (n : Nat))), none, none]) (ds := rngL 0 10)
    (fun _ => true) (fun d => match d with | .int m => .bool (decide (m < (n : Int))) | _ => .none)
    (by
      unfold I_zreach_3
      simp! []
      rw [rng1_e (by omega) (by omega)]
      rfl) (by simp) rfl (by simp [rngL]) (fun d hd => by
      rw [rng10] at hd
      obtain ⟨k, _, rfl⟩ := List.mem_map.mp hd
      refine ⟨rfl, fun _ => ?_⟩
      unfold E_zreach_3
      simp! [])
  have e3 : ((rngL 0 10).filter fun _ => true).map (fun d => match d with | .int m => PyData.bool (decide (m < (n : Int))) | _ => .none) = met := by
    rw [emet, rng10, List.filter_eq_self.mpr (fun _ _ => rfl), List.map_map]
    rfl
  rw [e3] at c3
  have ne := neF_self (d := .list met) (by
    rw [emet]
    exact k13.plain_all _ fun d m => by
      obtain ⟨k, _, rfl⟩ := List.mem_map.mp m
      rfl) (by
    rw [emet]
    have := k13.depth_all 0 ((List.range 10).map fun k : Nat => PyData.bool (decide ((k : Int) < (n : Nat)))) fun d m => by
      obtain ⟨k, _, rfl⟩ := List.mem_map.mp m
      simp [PyData.depth]
    simp only [PyData.depth]
    omega)
  refine ⟨some (.val (.list met)), some (.val (.int (n : Nat))), rfl, rfl, ?_⟩
  unfold Y_zreach_4
  rw [sSeq_e, sSetO_e]
  unfold C_zreach_1 C_zreach_2 C_zreach_3
  rw [c1]
  simp! [h4, h5, c2, e2, c3, ne]
  rw [app2_e 2 (by omega), en]
  rfl
theorem reach_e (o : Of) (l : List Br) (hl : ∀ r ∈ l, rOk r) (hb : 0 ≤ o.b ∧ o.b < 10) :
    m_zreach [.val (ofD o), .val (.list (l.map brD))] = .ok (.own (.list (ivals (fun k => 1 + far o k l) 10))) [none, none] := by
  obtain ⟨δ', e, x3, x4, x5, rfl, s3, s4, s5⟩ := forL_at (B := bName 3) (F := Y_zreach_4) (fun i δ => ∃ x3 x4 x5 : Option Cell, δ = [some (.val (ofD o)), some (.val (.list (l.map brD))), some (.own (.list (ivals (fun k => 1 + far o k l) i))), x3, x4, x5, none, none] ∧ soft x3 = true ∧ soft x4 = true ∧ soft x5 = true)
    (rngL 0 10) [some (.val (ofD o)), some (.val (.list (l.map brD))), some (.own (.list [])), none, none, none, none, none] ⟨_, _, _, rfl, rfl, rfl, rfl⟩
    (fun i d hd δ ⟨x3, x4, x5, e, s3, s4, s5⟩ => by
      subst e
      obtain ⟨hi, rfl⟩ := rngL_get hd
      refine ⟨_, by simp! [s3]; rfl, ?_⟩
      obtain ⟨y4, y5, h4, h5, e⟩ := reach_turn o l hl hb (ivals (fun k => 1 + far o k l) i) (by simp [ivals]; omega) (0 + (i : Int)) x4 x5 s4 s5
      refine ⟨_, .inl e, some (.val (.int (0 + (i : Int)))), y4, y5, ?_, rfl, h4, h5⟩
      have : ivals (fun k => 1 + far o k l) (i + 1) = ivals (fun k => 1 + far o k l) i ++ [.int (1 + far o (0 + (i : Int)) l)] := by
        unfold ivals
        rw [List.range_succ, List.map_append, Int.zero_add]
        rfl
      rw [this])
  unfold m_zreach
  rw [start _ _ _ _ (by rfl)]
  unfold F_zreach L_zreach_4 I_zreach_4
  simp! []
  rw [rng1_e (by omega) (by omega)]
  simp! [e]
  rfl
theorem okSeq_ints (ns : List Int) : okSeq (ns.map .int) = true := by
  unfold okSeq alikeB
  have p1 : PyData.plainAll (ns.map PyData.int) = true := k13.plain_all _ fun d m => by
    obtain ⟨n, _, rfl⟩ := List.mem_map.mp m
    rfl
  have p2 := k13.depth_all 0 (ns.map PyData.int) fun d m => by
    obtain ⟨n, _, rfl⟩ := List.mem_map.mp m
    simp [PyData.depth]
  rw [p1, decide_eq_true (by omega)]
  simp only [Bool.true_and, Bool.and_true, Bool.and_eq_true, List.all_eq_true]
  refine ⟨fun x hx y hy => ?_, fun x hx => ?_⟩
  · obtain ⟨n, _, rfl⟩ := List.mem_map.mp hx
    obtain ⟨m, _, rfl⟩ := List.mem_map.mp hy
    simp [PySem.W.alike]
  · obtain ⟨n, _, rfl⟩ := List.mem_map.mp hx
    rfl
theorem max_big (ns : List Int) (h : ∀ n ∈ ns, 0 ≤ n) : maxLD [.list (ns.map .int)] [.int (-1)] = some (.int (big ns)) := by
  show (if _ then _ else none) = _
  rw [if_pos ⟨okSeq_ints ns, rfl⟩]
  cases ns with
  | nil => rfl
  | cons n ns =>
    show some (PySem.W.maxD (.int n) (ns.map .int)) = _
    rw [PySem.W.maxD_ints]
    unfold big
    have := h n List.mem_cons_self
    rw [List.foldl_cons, show max (-1) n = n by omega]
theorem far_e (o : Of) (l : List Br) (hl : ∀ r ∈ l, rOk r) (hn : l.length ≤ 1000) (M : Int) : m_zfar [.val (ofD o), .val (.int M), .val (.list (l.map brD))] = .ok (.val (.int (far o M l))) [none, none, none] := by
  unfold m_zfar
  rw [start _ _ _ _ (by rfl)]
  unfold F_zfar far
  by_cases ha : o.a = M
  · unfold k13.ofD
    simp! [Bag.dt ha, if_pos ha]
  · have c := comp_map (i := 4) (I := I_zfar_1) (T := T_zfar_1) (E := E_zfar_1) (δ := [some (.val (ofD o)), some (.val (.int M)), some (.val (.list (l.map brD))), none, none]) (δ1 := [some (.val (ofD o)), some (.val (.int M)), some (.val (.list (l.map brD))), none, none]) (ds := l.map brD)
      (fun d => match d with
        | .tuple [.str w, .int a, .int p, .int m] => toM o M ⟨w, a, p, m⟩
        | _ => false) (fun d => match d with
        | .tuple [.str w, .int a, .int p, .int m] => .int m
        | _ => .none)
      (by
        unfold I_zfar_1
        simp! [])
      (by simp) rfl (by simp; omega) (fun d hd => by
        obtain ⟨r, _, rfl⟩ := List.mem_map.mp hd
        have c3 := k13.cut3 r
        unfold T_zfar_1 E_zfar_1 k13.ofD k13.brD toM
        refine ⟨?_, fun _ => ?_⟩
        · simp! [c3, k13.eq_three]
        · simp! [])
    have e : ((l.map brD).filter (fun d => match d with
        | .tuple [.str w, .int a, .int p, .int m] => toM o M ⟨w, a, p, m⟩
        | _ => false)).map (fun d => match d with
        | .tuple [.str w, .int a, .int p, .int m] => PyData.int m
        | _ => .none) = ((l.filter (toM o M)).map (·.m)).map .int := by
      rw [List.filter_map, List.map_map, List.map_map]
      rfl
    rw [e] at c
    have mb := max_big ((l.filter (toM o M)).map (·.m)) fun n hn => by
      obtain ⟨r, mr, rfl⟩ := List.mem_map.mp hn
      exact (hl r (List.mem_filter.mp mr).1).2.2.2.1.1
    unfold C_zfar_1
    unfold k13.ofD at c ⊢
    simp! [Bag.df ha, if_neg ha, c, mb]
theorem brs_of : ∀ (acc : List D), (∀ y ∈ acc, ∃ r, y = brD r ∧ rOk r) → ∃ l : List Br, acc = l.map brD ∧ ∀ r ∈ l, rOk r
  | [], _ => ⟨[], rfl, fun _ m => by cases m⟩
  | y :: acc, h => by
    obtain ⟨r, rfl, hr⟩ := h y List.mem_cons_self
    obtain ⟨l, rfl, hl⟩ := brs_of acc fun z m => h z (List.mem_cons_of_mem _ m)
    exact ⟨r :: l, rfl, fun x m => (List.mem_cons.mp m).elim (fun e => e ▸ hr) (hl x)⟩
theorem far_more (o : Of) (l : List Br) (r : Br) (M : Int) : far o M l ≤ far o M (l ++ [r]) := by
  unfold far
  split
  · exact Int.le_refl _
  · rw [List.filter_append, List.map_append]
    unfold big
    rw [List.foldl_append]
    exact (fold_ge _ _ _).mpr (.inl (Int.le_refl _))
theorem far_above (o : Of) (l : List Br) (b' M : Int) (h : o.b ≤ b') : far o M l ≤ far ⟨o.w, o.a, b'⟩ M l := by
  unfold far
  dsimp only
  split
  · exact h
  · exact Int.le_refl _
def FR (s : D) (b : Bg) (cl : D) (o : Of) (x4 x5 x6 x7 x8 x9 x10 x11 x12 x13 x14 x15 : Option Cell) : DEnv :=
  [some (.val s), some (.own (bagD b)), some (.val cl), some (.val (ofD o)), x4, x5, x6, x7, x8, x9, x10, x11, x12, x13, x14, x15]
theorem bridges (s : D) (b : Bg) (cl : D) (hB : ∀ b : Bg, ∃ (r : Br) (b' : Bg), m_zbridge [.ref (bagD b), .val cl] = .ok (.val (brD r)) [some (.ref (bagD b')), none] ∧ rOk r) (o : Of) :
    ∃ (l : List Br) (b' : Bg), C_law_1 (FR s b cl o none none none none none none none none none none none none) = .ok (.list (l.map brD)) (FR s b' cl o none none none none none none none none none none none none) ∧ l.length ≤ 6 ∧ ∀ r ∈ l, rOk r := by
  have v0 := takeV_nn (b := b) (m := 7) (by omega)
  have v1 := takeV_lt (b := b) (m := 7) (by omega)
  obtain ⟨acc, δ2, e, ln, G, b', rfl⟩ := comp_inv (i := 13) (I := I_law_1) (E := E_law_1) (δ := FR s b cl o none none none none none none none none none none none none)
    (δ1 := FR s (takeB b 7) cl o none none none none none none none none none none none none) (ds := rngL 0 (takeV b 7).toNat)
    (fun δ => ∃ b', δ = FR s b' cl o none none none none none none none none none none none none) (fun y => ∃ r, y = brD r ∧ rOk r)
    (by
      unfold I_law_1 FR
      simp! [take_e]
      rw [rng1_e (by omega) (by omega)])
    rfl (by simp [FR]) (by simp [rngL]; omega) ⟨_, rfl⟩ (fun δ ⟨b', e⟩ => by
      subst e
      exact ⟨rfl, rfl⟩) (fun d _ δ ⟨b1, e⟩ => by
      subst e
      obtain ⟨q, b2, e1, h⟩ := hB b1
      refine ⟨_, _, by
        unfold E_law_1 FR
        simp! [e1]
        rfl, ⟨q, rfl, h⟩, b2, rfl⟩) rfl
  obtain ⟨l, rfl, hl⟩ := brs_of acc G
  refine ⟨l, b', e, ?_, hl⟩
  rw [List.length_map] at ln
  simp [rngL] at ln
  omega
theorem bridges2 (s : D) (b : Bg) (cr : List D) (o : Of) (l : List Br) (hl : l.length ≤ 6) :
    C_law_2 (FR s b (.list (.str o.w :: cr)) o (some (.val (.list (l.map brD)))) none none none none none none none none none none none) = .ok (.list (((l.filter fun r => !decide (r.o = o.a)).map fun r => (⟨o.w, o.a, r.o, r.m⟩ : Br)).map brD)) (FR s b (.list (.str o.w :: cr)) o (some (.val (.list (l.map brD)))) none none none none none none none none none none none) := by
  have c := comp_map (i := 14) (I := I_law_2) (T := T_law_2) (E := E_law_2) (δ := FR s b (.list (.str o.w :: cr)) o (some (.val (.list (l.map brD)))) none none none none none none none none none none none) (δ1 := FR s b (.list (.str o.w :: cr)) o (some (.val (.list (l.map brD)))) none none none none none none none none none none none) (ds := l.map brD)
    (fun d => match d with
      | .tuple [.str w, .int a, .int p, .int m] => !decide (p = o.a)
      | _ => false) (fun d => match d with
      | .tuple [.str w, .int a, .int p, .int m] => .tuple [.str o.w, .int o.a, .int p, .int m]
      | _ => .none)
    (by
      unfold I_law_2 FR
      simp! [])
    (by simp [FR]) rfl (by simp; omega) (fun d hd => by
      obtain ⟨r, _, rfl⟩ := List.mem_map.mp hd
      unfold T_law_2 E_law_2 FR k13.ofD k13.brD
      refine ⟨?_, fun _ => ?_⟩
      · simp! []
      · simp! [])
  unfold C_law_2
  rw [c, List.filter_map, List.map_map, List.map_map]
  rfl
theorem low_ok (f g : Nat → Int) (h : ∀ k, k < 10 → g k ≤ f k) (s : D) (b : Bg) (cl : D) (o : Of) (x4 x6 x7 : Option Cell) (x8 x9 : Option Cell) :
    C_law_4 (FR s b cl o x4 (some (.val (.list (ivals g 10)))) x6 x7 (some (.val (.list (ivals f 10)))) none none none none none none none) = .ok (.list []) (FR s b cl o x4 (some (.val (.list (ivals g 10)))) x6 x7 (some (.val (.list (ivals f 10)))) none none none none none none none) := by
  have at_ : ∀ (f : Nat → Int) (k : Nat), k < 10 → atI (ivals f 10) (k : Int) = some (.int (f k)) := fun f k hk => by
    rw [atI_nat', atN_get]
    unfold ivals
    rw [List.getElem?_map, List.getElem?_range hk]
    rfl
  have c := comp_map (i := 13) (I := I_law_4) (T := T_law_4) (E := E_law_4) (δ := FR s b cl o x4 (some (.val (.list (ivals g 10)))) x6 x7 (some (.val (.list (ivals f 10)))) none none none none none none none) (δ1 := FR s b cl o x4 (some (.val (.list (ivals g 10)))) x6 x7 (some (.val (.list (ivals f 10)))) none none none none none none none) (ds := rngL 0 10)
    (fun _ => false) id (by
      unfold I_law_4
      simp! []
      rw [rng1_e (by omega) (by omega)]
      rfl) (by simp [FR]) rfl (by simp [rngL]) (fun d hd => by
      rw [rng10] at hd
      obtain ⟨k, mk, rfl⟩ := List.mem_map.mp hd
      have hk := List.mem_range.mp mk
      refine ⟨?_, fun z => by cases z⟩
      unfold T_law_4 FR
      simp! [at_ f k hk, at_ g k hk, Bag.df (show ¬ f k < g k from Int.not_lt.mpr (h k hk))])
  unfold C_law_4
  rw [c]
  simp
def keepK (a t : Int) : D → Bool
  | .int k => !decide (k = a) && !decide (k = t)
  | _ => false
theorem rest10 : ∀ a t : Fin 10, a ≠ t → (((List.range 10).map fun k : Nat => PyData.int (k : Nat)).filter (keepK a.val t.val)).length = 8 := by decide +kernel
theorem last_ok (s : D) (b : Bg) (cl : D) (o : Of) (a t : Int) (ha : 0 ≤ a ∧ a < 10) (ht : 0 ≤ t ∧ t < 10) (ne : a ≠ t) (x4 x5 x6 x7 x8 : Option Cell) :
    ∃ ks : List Int, C_law_6 (FR s b cl o x4 x5 x6 x7 x8 (some (.val (.int a))) (some (.val (.int t))) none none none none none) = .ok (.list (ks.map .int)) (FR s b cl o x4 x5 x6 x7 x8 (some (.val (.int a))) (some (.val (.int t))) none none none none none) ∧ ks.length = 8 ∧ ∀ k ∈ ks, k ≠ a ∧ k ≠ t := by
  have c := comp_map (i := 13) (I := I_law_6) (T := T_law_6) (E := E_law_6) (δ := FR s b cl o x4 x5 x6 x7 x8 (some (.val (.int a))) (some (.val (.int t))) none none none none none) (δ1 := FR s b cl o x4 x5 x6 x7 x8 (some (.val (.int a))) (some (.val (.int t))) none none none none none) (ds := rngL 0 10)
    (keepK a t) id
    (by
      unfold I_law_6
      simp! []
      rw [rng1_e (by omega) (by omega)]
      rfl) (by simp [FR]) rfl (by simp [rngL]) (fun d hd => by
      rw [rng10] at hd
      obtain ⟨k, mk, rfl⟩ := List.mem_map.mp hd
      refine ⟨?_, fun _ => ?_⟩
      · unfold T_law_6 FR keepK
        by_cases h : (k : Int) = a
        · simp! [Bag.dt h, Bool.not_true, Bool.false_and]
        · simp! [Bag.df h, Bool.not_false, Bool.true_and]
      · unfold E_law_6 FR
        simp! [id])
  rw [List.map_id] at c
  have shape : ∀ l : List Nat, ∃ ks : List Int, ((l.map fun k : Nat => PyData.int (k : Nat)).filter (keepK a t)) = ks.map .int ∧ ∀ k ∈ ks, k ≠ a ∧ k ≠ t := by
    intro l
    refine ⟨(l.map fun k : Nat => (k : Int)).filter fun k => !decide (k = a) && !decide (k = t), ?_, fun k m => ?_⟩
    · rw [show (l.map fun k : Nat => PyData.int (k : Nat)) = (l.map fun k : Nat => (k : Int)).map .int by rw [List.map_map]; rfl, List.filter_map]
      rfl
    · have := (List.mem_filter.mp m).2
      simp only [Bool.and_eq_true, Bool.not_eq_true', decide_eq_false_iff_not] at this
      exact this
  rw [rng10] at c
  obtain ⟨ks, e, h⟩ := shape (List.range 10)
  refine ⟨ks, ?_, ?_, h⟩
  · unfold C_law_6
    rw [c, e]
  · have := rest10 ⟨a.toNat, by omega⟩ ⟨t.toNat, by omega⟩ (fun z => by
      have := congrArg Fin.val z
      dsimp only at this
      omega)
    dsimp only at this
    rw [show ((a.toNat : Nat) : Int) = a by omega, show ((t.toNat : Nat) : Int) = t by omega, e, List.length_map] at this
    exact this
theorem turn5 (ds : List D) (s : D) (b : Bg) (cl : D) (o : Of) (x4 x6 x7 x8 : Option Cell) (h8 : soft x8 = true) (f g : Nat → Int) (h : ∀ k, k < 10 → g k ≤ f k) :
    sForL (bName 8) Y_law_5 (.list (ivals f 10) :: ds) (FR s b cl o x4 (some (.val (.list (ivals g 10)))) x6 x7 x8 none none none none none none none) = sForL (bName 8) Y_law_5 ds (FR s b cl o x4 (some (.val (.list (ivals g 10)))) x6 x7 (some (.val (.list (ivals f 10)))) none none none none none none none) := by
  have lo := low_ok f g h s b cl o x4 x6 x7 x8 none
  have nn : ∀ l : List D, isNoneD (.list l) = false := fun _ => rfl
  have n0 := neF_self (d := .list []) rfl (by simp [PyData.depth, PyData.depthAll])
  rw [forL_cons]
  unfold FR at lo ⊢
  simp! [h8, for1_e]
  unfold Y_law_5
  simp! [nn, lo, n0, for2_n]
def farK (o : Of) (l : List Br) : D → D
  | .int M => .int (1 + far o M l)
  | _ => .none
theorem law_true (ns : List Int) (hn : ns.length ≤ 63) (hb : ∀ z ∈ ns, Builtin.Int.intBits z ≤ 1048576) : m_law [.val (scriptD ns)] = .ok (.val (.bool true)) [none] := by
  have be := Bag.bag_e ns hn
  rw [← bag_m] at be
  obtain ⟨w, v, r, b0, ce, ne, hr, hw⟩ := calls_ne (Bag.bag0 ns)
  have ve := k13.version_e b0
  rw [← version_m] at ve
  generalize hs : scriptD ns = s at be
  have p0 := takeV_nn (b := b0) (m := 10) (by omega)
  have p1 := takeV_lt (b := b0) (m := 10) (by omega)
  have q0 := takeV_nn (b := takeB b0 10) (m := 10) (by omega)
  have q1 := takeV_lt (b := takeB b0 10) (m := 10) (by omega)
  obtain ⟨o, eo⟩ : ∃ o : Of, o = ⟨w, takeV b0 10, takeV (takeB b0 10) 10⟩ := ⟨_, rfl⟩
  have hB : ∀ b : Bg, ∃ (r' : Br) (b' : Bg), m_zbridge [.ref (bagD b), .val (.list ((w :: v :: r).map .str))] = .ok (.val (brD r')) [some (.ref (bagD b')), none] ∧ rOk r' := fun b => bridge_ok b _ (by simp) (by simp; omega) hw
  obtain ⟨b1, eb1⟩ : ∃ b1, b1 = takeB (takeB b0 10) 10 := ⟨_, rfl⟩
  rw [← eb1] at ve
  obtain ⟨l, b2, c1, l6, hl⟩ := bridges s b1 _ hB o
  have ow : o.w = w := by rw [eo]
  have oa : o.a = takeV b0 10 := by rw [eo]
  have ob : o.b = takeV (takeB b0 10) 10 := by rw [eo]
  have od : PyData.tuple [.str w, .tuple [.int (takeV b0 10), .int (takeV (takeB b0 10) 10)]] = ofD o := by rw [eo]; rfl
  have c2 := bridges2 s (takeB b2 2) ((v :: r).map .str) o l l6
  -- the list of bridges
  obtain ⟨l2, el2⟩ : ∃ l2 : List Br, l2 = if takeV b2 2 = 0 then ((l.filter fun r => !decide (r.o = o.a)).map fun r => (⟨o.w, o.a, r.o, r.m⟩ : Br)) else l := ⟨_, rfl⟩
  have h2 : ∀ r ∈ l2, rOk r := by
    rw [el2]
    split
    · intro x m
      obtain ⟨y, my, rfl⟩ := List.mem_map.mp m
      obtain ⟨m1, m2⟩ := List.mem_filter.mp my
      simp only [Bool.not_eq_true', decide_eq_false_iff_not] at m2
      obtain ⟨k1, k2, k3, k4, k5⟩ := hl y m1
      refine ⟨?_, ?_, k3, k4, fun z => m2 z.symm⟩
      · rw [ow]
        exact hw w List.mem_cons_self
      · rw [oa]
        exact ⟨p0, p1⟩
    · exact hl
  have n2 : l2.length ≤ 6 := by
    rw [el2]
    split
    · rw [List.length_map]
      exact Nat.le_trans (List.length_filter_le _ _) l6
    · exact l6
  have ob2 : 0 ≤ o.b ∧ o.b < 10 := by rw [ob]; exact ⟨q0, q1⟩
  have re := reach_e o l2 h2 ob2
  have c3 := comp_map (i := 15) (I := I_law_3) (T := fYes) (E := E_law_3) (δ := FR s (takeB b2 2) (.list ((w :: v :: r).map .str)) o (some (.val (.list (l2.map brD)))) (some (.val (.list (ivals (fun k => 1 + far o k l2) 10)))) none none none none none none none none none none) (δ1 := FR s (takeB b2 2) (.list ((w :: v :: r).map .str)) o (some (.val (.list (l2.map brD)))) (some (.val (.list (ivals (fun k => 1 + far o k l2) 10)))) none none none none none none none none none none) (ds := rngL 0 10)
    (fun _ => true) (farK o l2)
    (by
      unfold I_law_3
      simp! []
      rw [rng1_e (by omega) (by omega)]
      rfl) (by simp [FR]) rfl (by simp [rngL]) (fun d hd => by
      rw [rng10] at hd
      obtain ⟨k, mk, rfl⟩ := List.mem_map.mp hd
      refine ⟨rfl, fun _ => ?_⟩
      have fe := far_e o l2 h2 (by omega) k
      unfold E_law_3 FR farK
      simp! [fe])
  have e3 : ((rngL 0 10).filter fun _ => true).map (farK o l2) = ivals (fun k => 1 + far o k l2) 10 := by
    rw [rng10, List.filter_eq_self.mpr (fun _ _ => rfl), List.map_map]
    rfl
  rw [e3] at c3
  have flat : ∀ f : Nat → Int, (PyData.list (ivals f 10)).plain = true ∧ (PyData.list (ivals f 10)).depth ≤ 60 := fun f => by
    have d0 := k13.depth_all 0 (ivals f 10) fun d m => by
      obtain ⟨k, _, rfl⟩ := List.mem_map.mp m
      simp [PyData.depth]
    refine ⟨k13.plain_all _ fun d m => ?_, by simp only [PyData.depth]; omega⟩
    obtain ⟨k, _, rfl⟩ := List.mem_map.mp m
    rfl
  have n3 := neF_self (flat fun k => 1 + far o k l2).1 (flat fun k => 1 + far o k l2).2
  have e4 := eqF_self (flat fun k => 1 + far o k l2).1 (flat fun k => 1 + far o k l2).2
  obtain ⟨b3, eb3⟩ : ∃ b3, b3 = takeB (takeB b2 2) 3 := ⟨_, rfl⟩
  have t0 := takeV_nn (b := takeB b2 2) (m := 3) (by omega)
  have mb := mn_b 9 (o.b + 1 + takeV (takeB b2 2) 3)
  obtain ⟨o', eo'⟩ : ∃ o' : Of, o' = ⟨o.w, o.a, mn 9 (o.b + 1 + takeV (takeB b2 2) 3)⟩ := ⟨_, rfl⟩
  have od' : PyData.tuple [.str o.w, .tuple [.int o.a, .int (mn 9 (o.b + 1 + takeV (takeB b2 2) 3))]] = ofD o' := by rw [eo']; rfl
  have ob' : 0 ≤ o'.b ∧ o'.b < 10 := by rw [eo']; dsimp only; omega
  have re' := reach_e o' l2 h2 ob'
  obtain ⟨rb, b4, be4, hrb⟩ := hB b3
  have h4 : ∀ x ∈ l2 ++ [rb], rOk x := fun x m => (List.mem_append.mp m).elim (h2 x) fun m => by
    rw [List.mem_singleton.mp m]
    exact hrb
  have re2 := reach_e o (l2 ++ [rb]) h4 ob2
  have a4 : addF (.list (l2.map brD)) (.list [brD rb]) = some (.list ((l2 ++ [rb]).map brD)) := by
    rw [addF_l (by rw [List.length_map]; show _ + 1 ≤ _; omega), List.map_append]
    rfl
  -- the two turns
  have t5 := turn5 [.list (ivals (fun k => 1 + far o k (l2 ++ [rb])) 10)] s b4 (.list ((w :: v :: r).map .str)) o (some (.val (.list (l2.map brD)))) (some (.val (ofD o'))) (some (.val (.list ((l2 ++ [rb]).map brD)))) none rfl (fun k => 1 + far o' k l2) (fun k => 1 + far o k l2) (fun k _ => by
    have := far_above o l2 o'.b k (by rw [eo']; dsimp only; omega)
    rw [show (⟨o.w, o.a, o'.b⟩ : Of) = o' by rw [eo']] at this
    show 1 + _ ≤ 1 + _
    omega)
  have t6 := turn5 [] s b4 (.list ((w :: v :: r).map .str)) o (some (.val (.list (l2.map brD)))) (some (.val (ofD o'))) (some (.val (.list ((l2 ++ [rb]).map brD)))) (some (.val (.list (ivals (fun k => 1 + far o' k l2) 10)))) rfl (fun k => 1 + far o k (l2 ++ [rb])) (fun k => 1 + far o k l2) (fun k _ => by
    have := far_more o l2 rb k
    show 1 + _ ≤ 1 + _
    omega)
  rw [t6, forL_nil] at t5
  clear t6
  -- the rest
  have u0 := takeV_nn (b := b4) (m := 9) (by omega)
  have u1 := takeV_lt (b := b4) (m := 9) (by omega)
  obtain ⟨t, et⟩ : ∃ t, t = (o.a + 1 + takeV b4 9) % 10 := ⟨_, rfl⟩
  have oa10 : 0 ≤ o.a ∧ o.a < 10 := by rw [oa]; exact ⟨p0, p1⟩
  have t10 : 0 ≤ t ∧ t < 10 := by omega
  have at_ : o.a ≠ t := by omega
  obtain ⟨ks, c6, k8, hk⟩ := last_ok s (takeB b4 9) (.list ((w :: v :: r).map .str)) o o.a t oa10 t10 at_ (some (.val (.list (l2.map brD)))) (some (.val (.list (ivals (fun k => 1 + far o k l2) 10)))) (some (.val (ofD o'))) (some (.val (.list ((l2 ++ [rb]).map brD)))) (some (.val (.list (ivals (fun k => 1 + far o k (l2 ++ [rb])) 10))))
  have v0 := takeV_nn (b := takeB b4 9) (m := 8) (by omega)
  have v1 := takeV_lt (b := takeB b4 9) (m := 8) (by omega)
  have ai := atI_map ks PyData.int v0 (by omega) 0
  obtain ⟨la, ela⟩ : ∃ la, la = ks.getD (takeV (takeB b4 9) 8).toNat 0 := ⟨_, rfl⟩
  rw [← ela] at ai
  have hla := hk la (by rw [ela]; exact Dl.getD_mem (by omega))
  have m7 := k13.meets_e o ⟨o.w, la, 0⟩ [⟨o.w, o.a, t, 9⟩, ⟨o.w, t, la, 9⟩]
  have d7 : dueV o ⟨o.w, la, 0⟩ [⟨o.w, o.a, t, 9⟩, ⟨o.w, t, la, 9⟩] = .none := by
    unfold k13.dueV
    dsimp only
    rw [if_pos rfl, if_neg (fun z => hla.1 z.1.symm)]
    have : [(⟨o.w, o.a, t, 9⟩ : Br), ⟨o.w, t, la, 9⟩].find? (does o ⟨o.w, la, 0⟩) = none := by
      rw [List.find?_cons_of_neg, List.find?_cons_of_neg, List.find?_nil]
      · unfold k13.does
        dsimp only
        rw [Bag.df (show ¬ t = o.a from fun z => at_ z.symm)]
        simp
      · unfold k13.does
        dsimp only
        rw [Bag.df (show ¬ t = la from fun z => hla.2 z.symm)]
        simp
    rw [this]
  rw [d7, ← meets_m] at m7
  have m8 := k13.meets_e ⟨v, 9, 9⟩ ⟨o.w, 9, 0⟩ (l2 ++ [rb])
  have d8 : dueV ⟨v, 9, 9⟩ ⟨o.w, 9, 0⟩ (l2 ++ [rb]) = .none := by
    unfold k13.dueV
    dsimp only
    rw [if_neg (fun z => ne (by rw [z, ow]))]
  rw [d8, ← meets_m] at m8
  have nn : isNoneD .none = true := rfl
  simp only [List.map_cons, List.map_nil] at m7
  unfold FR at c1 c2 c3 t5 c6
  subst eo'
  subst eo
  unfold k13.ofD at c1 c2 re c3 re' re2 t5 c6 m7 m8
  unfold k13.brD at m7
  dsimp only at c1 c2 re c3 re' re2 t5 c6 m7 m8
  simp only [List.map_cons] at ce c1 c2 c3 t5 c6 be4 hB
  unfold m_law
  rw [start _ _ _ _ (by rfl)]
  unfold F_law
  have mid : ∀ G : Fs, seq1 G (sIf (fB (fBin eqF (fOf (fR m_ztake 0 1 toVal (apHead 1 (fCons (fC (.int 2)) fNil)))) (fOf (fC (.int 0))))) (sSet 4 C_law_2) sNext [some (Cell.val s), some (Cell.own (bagD b2)), some (Cell.val (PyData.list (PyData.str w :: PyData.str v :: List.map PyData.str r))), some (Cell.val (PyData.tuple [PyData.str w, PyData.tuple [PyData.int (takeV b0 10), PyData.int (takeV (takeB b0 10) 10)]])), some (Cell.val (PyData.list (l.map brD))), none, none, none, none, none, none, none, none, none, none, none]) =
      G [some (Cell.val s), some (Cell.own (bagD (takeB b2 2))), some (Cell.val (PyData.list (PyData.str w :: PyData.str v :: List.map PyData.str r))), some (Cell.val (PyData.tuple [PyData.str w, PyData.tuple [PyData.int (takeV b0 10), PyData.int (takeV (takeB b0 10) 10)]])), some (Cell.val (PyData.list (l2.map brD))), none, none, none, none, none, none, none, none, none, none, none] := fun G => by
    by_cases z : takeV b2 2 = 0
    · rw [if_pos z] at el2
      rw [el2]
      simp! [take_e, z, c2]
    · rw [if_neg z] at el2
      rw [el2]
      simp! [take_e, Bag.df z]
  generalize (sIf (fB (fBin eqF (fOf (fR m_ztake 0 1 toVal (apHead 1 (fCons (fC (.int 2)) fNil)))) (fOf (fC (.int 0))))) (sSet 4 C_law_2) sNext) = IFS at mid ⊢
  simp! [be, ce, ve]
  rw [c1, bindS_ok]
  simp! []
  rw [mid]
  have lit : PyData.list (PyData.str w :: PyData.str v :: List.map PyData.str r) = PyData.list (PyData.str w :: PyData.str v :: List.map PyData.str r) := rfl
  simp! [re]
  unfold C_law_3
  rw [c3]
  simp! [n3, Bool.not_false, take_e, ← eb3, re', be4, a4, re2]
  unfold L_law_5 I_law_5
  simp! [re', re2, t5, take_e, ← et]
  rw [c6]
  simp! [take_e, ai, m7, m8, nn, Bool.not_true, e4, re]
end k14

open PySem PySem.W PySem.Calls PyProof.Rows
theorem PySem.Challenge.cw_plughall_k14_whole_how_far_an_offer_goes_holds : PySem.Challenge.rw_plughall_k14_whole_how_far_an_offer_goes.Holds := by
  w_on; o_law
  refine HandSHeadRun.head_any (r := k14.R) (q := view k14.R.prog [13]) (H := k14.hk) (ob := k14.ob) (M := 1240) (loose := k14.loose) (d := HandSHeadRun.topDef k14.R.prog 13) (kwd := []) k14.ob_eq
    (by kernel_rfl) (fun s => by kernel_rfl) k14.run (by kernel_rfl) (by kernel_rfl) (by kernel_rfl) (by rfl) (by first | assumption | decide +kernel) (by decide +kernel) ⟨rfl, rfl, rfl, rfl, rfl, by decide +kernel⟩ ?hw ?hc
  case hw => w_witness2
  case hc =>
    refine Dl.law_end (l := PySem.Challenge.rw_plughall_k14_whole_how_far_an_offer_goes) (n := 63) (k := 4) (x := "_law_script") (m := k14.m_law) rfl (by decide) (by kernel_rfl) ⟨rfl, by decide, by decide⟩ ?F k14.law_true
    intro w mg fa h Y G hmg0
    obtain ⟨K, KX, c⟩ := Y
    have hmg : mg ("law" : PySem.Str) = some (.ref fa) := by
      have e : (HandSHeadRun.topDef k14.R.prog 13).name = ("law" : PySem.Str) := by kernel_rfl
      rw [← e]
      exact hmg0
    obtain ⟨fd, hb, hF⟩ := k14.facts (P := (PySem.Challenge.rw_plughall_k14_whole_how_far_an_offer_goes).prog) (w := w) KX G hmg c
    exact ⟨K, fd, KX, hb, hF⟩
