import PyProof.Rows.All
import Wide.All
import OpenK.AllK
import Wide.FinOn
import HandS.ForMost
import HandS.Exc
import HandS.TryOnly
import HandS.TryMany
import HandS.ExcOwn
import HandS.Nested
import HandS.Wide
import HandS.TupAny
import HandS.TupMul
import HandS.IsInst
import KE.DataCmp
import KE.DataFind
import HandS.FStr
import HandS.Replace
import KE.SortData
import KE.DatumIndex
import HandS.Style
import HandS.EndBits
import HandS.HeadEnd
import HandS.Head2
import HandS.HeadHook2
import HandS.Defaults
import HandS.SortKw
import HandS.Deep
import KE.DataMinMax
import KE.KUnpackStar
import HandS.Zip
import HandS.Strs
import HandS.ExcIs
import PyProof.ExcBaseAll.ValueError
import PyProof.SliceStr2
import HandS.SetFor
import PyProof.Rows.SortShellAny
import HandS.TupSets
import HandS.HeadHook3
import HandS.Dict
import HandS.More
import HandS.RaiseMore
import KE.GoesMore
import KE.GoesZip
import KE.KIntText
import HandS.HeadHook4
import HandS.EndTab
import HandS.NestedK
import PyProof.ListStr
import HandS.Conv
import HandS.Lambda
import KE.SortKeyHeap
import HandS.DictEq
import PySem.Challenge.RW_plughall_k61_setting_told
set_option Elab.async false
set_option linter.all false
set_option maxRecDepth 100000
/-! Dl: data-level readings over the hand layer. A value is said by a datum (PyData); an expression by a function on the frame's data. -/
namespace Dl
open PySem PySem.Spec PyProof.Rows L2

abbrev D := PyData
abbrev St := L2.St
abbrev Msk := Addr → Prop
/-- a dict's key as a datum -/
def kD : Key → D
  | .inl i => .int i
  | .inr x => .str x

/-! ### values that stand for data; M: addresses that are out of bounds -/
/-- a list that the module's top has made (or the script, where it is one) -/
def KwL (K : PySem.W.Frag) (a : Addr) (xs : List V) : Prop := ∃ (its : List Value) (n : Nat), K.lookup a = some { cls := .type "list", data := .seq its.toArray n } ∧ xs.length ≤ sizeLine ∧ Vals xs its
theorem KwL.sq {K : PySem.W.Frag} {H : Hp} {a : Addr} {xs : List V} (h : KwL K a xs) : SqL K H a xs := by
  obtain ⟨its, n, e, hz, r⟩ := h
  refine .inr ⟨_, its.toArray, n, e, rfl, rfl, rfl, ?_, by simpa using r⟩
  have := r.length
  rw [List.size_toArray]
  omega
def LstAt (K : PySem.W.Frag) (M : Msk) (H : Hp) (a : Addr) (xs : List V) : Prop := (¬ M a ∧ Rd H a (.lst xs)) ∨ KwL K a xs
/-- a list that is looked at -/
def LsR (K : PySem.W.Frag) (H : Hp) (a : Addr) (xs : List V) : Prop := Rd H a (.lst xs) ∨ KwL K a xs
theorem LsR.sq {K : PySem.W.Frag} {H : Hp} {a : Addr} {xs : List V} : LsR K H a xs → SqL K H a xs
  | .inl r => .inl r
  | .inr h => h.sq
theorem LstAt.ls {K : PySem.W.Frag} {M : Msk} {H : Hp} {a : Addr} {xs : List V} : LstAt K M H a xs → LsR K H a xs
  | .inl h => .inl h.2
  | .inr h => .inr h
def TupAt (K : PySem.W.Frag) (M : Msk) (H : Hp) (a : Addr) (xs : List V) : Prop := (¬ M a ∧ Rd H a (.tup xs)) ∨ ∀ G, SqT K G a xs
def DicAt (M : Msk) (H : Hp) (a : Addr) (kv : List (Key × V)) : Prop := ¬ M a ∧ Rd H a (.dK kv)
def TicAt (M : Msk) (H : Hp) (a : Addr) (kt : List (List Key × V)) : Prop := ¬ M a ∧ H a = some (.dT kt)
/-- what stands ahead in a dict whose keys are tuples: no text may be told of it -/
def bigD : D := .int (2 ^ 2000)
mutual
def Dat (K : PySem.W.Frag) (M : Msk) (H : Hp) : D → V → Prop
  | .none, v => v = .non
  | .bool b, v => v = .bl b
  | .int i, v => v = .int i
  | .str s, v => v = .str s
  | .list ds, v => ∃ a xs, v = .ref a ∧ LstAt K M H a xs ∧ DatAll K M H ds xs
  | .tuple ds, v => ∃ a xs, v = .ref a ∧ TupAt K M H a xs ∧ DatAll K M H ds xs
  | .dict ds, v => (∃ a kv, v = .ref a ∧ DicAt M H a kv ∧ DatKV K M H ds kv) ∨ ∃ a kt, v = .ref a ∧ TicAt M H a kt ∧ DatT K M H ds kt
def DatAll (K : PySem.W.Frag) (M : Msk) (H : Hp) : List D → List V → Prop
  | [], vs => vs = []
  | d :: ds, vs => ∃ v r, vs = v :: r ∧ Dat K M H d v ∧ DatAll K M H ds r
def DatKV (K : PySem.W.Frag) (M : Msk) (H : Hp) : List (D × D) → List (Key × V) → Prop
  | [], kv => kv = []
  | (k, d) :: ds, kv => ∃ j v r, kv = (j, v) :: r ∧ k = kD j ∧ Dat K M H d v ∧ DatKV K M H ds r
def DatKT (K : PySem.W.Frag) (M : Msk) (H : Hp) : List (D × D) → List (List Key × V) → Prop
  | [], kt => kt = []
  | (k, d) :: ds, kt => ∃ j v r, kt = (j, v) :: r ∧ k = .tuple (j.map kD) ∧ Dat K M H d v ∧ DatKT K M H ds r
def DatT (K : PySem.W.Frag) (M : Msk) (H : Hp) : List (D × D) → List (List Key × V) → Prop
  | [], _ => False
  | (k, d) :: ds, kt => k = .none ∧ d = bigD ∧ DatKT K M H ds kt
end
/-- no table of code objects: those grow -/
def NT (o : HO) : Prop := ∀ ps, o ≠ .tbl ps
theorem nt_lst {xs : List V} : NT (.lst xs) := fun _ h => by cases h
theorem nt_tup {xs : List V} : NT (.tup xs) := fun _ h => by cases h
theorem nt_dK {xs : List (Key × V)} : NT (.dK xs) := fun _ h => by cases h
theorem nt_dT {xs : List (List Key × V)} : NT (.dT xs) := fun _ h => by cases h
theorem nt_xd {xs : List (Str × V)} : NT (.xd xs) := fun _ h => by cases h
theorem nt_frz {o : Obj} {u : HO} : NT (.frz o u) := fun _ h => by cases h
/-- what may be read through M, H may be read through M', H' -/
def Mv (M : Msk) (H : Hp) (M' : Msk) (H' : Hp) : Prop := ∀ a o, ¬ M a → H a = some o → NT o → ¬ M' a ∧ H' a = some o
theorem Mv.refl {M : Msk} {H : Hp} : Mv M H M H := fun _ _ n e _ => ⟨n, e⟩
theorem Mv.trans {M M1 M2 : Msk} {H H1 H2 : Hp} (a : Mv M H M1 H1) (b : Mv M1 H1 M2 H2) : Mv M H M2 H2 := fun x o n e nt => by
  obtain ⟨n1, e1⟩ := a x o n e nt
  exact b x o n1 e1 nt
theorem Mv.rd {M M' : Msk} {H H' : Hp} (m : Mv M H M' H') {a : Addr} {u : HO} (nt : NT u) (n : ¬ M a) (r : Rd H a u) : ¬ M' a ∧ Rd H' a u := by
  rcases r with r | ⟨o, r⟩
  · obtain ⟨n1, e1⟩ := m a _ n r nt
    exact ⟨n1, .inl e1⟩
  · obtain ⟨n1, e1⟩ := m a _ n r nt_frz
    exact ⟨n1, .inr ⟨o, e1⟩⟩
section
variable {K : PySem.W.Frag} {M M' : Msk} {H H' : Hp}
theorem LstAt.mv (m : Mv M H M' H') {a : Addr} {xs : List V} : LstAt K M H a xs → LstAt K M' H' a xs
  | .inl ⟨n, r⟩ => .inl (m.rd nt_lst n r)
  | .inr h => .inr h
theorem TupAt.mv (m : Mv M H M' H') {a : Addr} {xs : List V} : TupAt K M H a xs → TupAt K M' H' a xs
  | .inl ⟨n, r⟩ => .inl (m.rd nt_tup n r)
  | .inr h => .inr h
theorem LstAt.sq {a : Addr} {xs : List V} : LstAt K M H a xs → SqL K H a xs
  | .inl ⟨_, r⟩ => .inl r
  | .inr h => h.sq
theorem TupAt.sq {a : Addr} {xs : List V} : TupAt K M H a xs → SqT K H a xs
  | .inl ⟨_, r⟩ => .inl r
  | .inr h => h H
mutual
theorem Dat.mv (m : Mv M H M' H') : ∀ {d : D} {v : V}, Dat K M H d v → Dat K M' H' d v
  | .none, _, h => h
  | .bool _, _, h => h
  | .int _, _, h => h
  | .str _, _, h => h
  | .list ds, _, h => by
    simp only [Dat] at h ⊢
    obtain ⟨a, xs, e, l, r⟩ := h
    exact ⟨a, xs, e, l.mv m, DatAll.mv m r⟩
  | .tuple ds, _, h => by
    simp only [Dat] at h ⊢
    obtain ⟨a, xs, e, l, r⟩ := h
    exact ⟨a, xs, e, l.mv m, DatAll.mv m r⟩
  | .dict ds, _, h => by
    simp only [Dat] at h ⊢
    rcases h with ⟨a, xs, e, l, r⟩ | ⟨a, xs, e, l, r⟩
    · exact .inl ⟨a, xs, e, m.rd nt_dK l.1 l.2, DatKV.mv m r⟩
    · exact .inr ⟨a, xs, e, m _ _ l.1 l.2 nt_dT, DatT.mv m r⟩
theorem DatAll.mv (m : Mv M H M' H') : ∀ {ds : List D} {vs : List V}, DatAll K M H ds vs → DatAll K M' H' ds vs
  | [], _, h => by
    simp only [DatAll] at h ⊢
    exact h
  | d :: ds, _, h => by
    simp only [DatAll] at h ⊢
    obtain ⟨v, r, e, h1, h2⟩ := h
    exact ⟨v, r, e, Dat.mv m h1, DatAll.mv m h2⟩
theorem DatKV.mv (m : Mv M H M' H') : ∀ {ds : List (D × D)} {kv : List (Key × V)}, DatKV K M H ds kv → DatKV K M' H' ds kv
  | [], _, h => by
    simp only [DatKV] at h ⊢
    exact h
  | (k, d) :: ds, _, h => by
    simp only [DatKV] at h ⊢
    obtain ⟨j, v, r, e, ek, h1, h2⟩ := h
    exact ⟨j, v, r, e, ek, Dat.mv m h1, DatKV.mv m h2⟩
theorem DatKT.mv (m : Mv M H M' H') : ∀ {ds : List (D × D)} {kv : List (List Key × V)}, DatKT K M H ds kv → DatKT K M' H' ds kv
  | [], _, h => by
    simp only [DatKT] at h ⊢
    exact h
  | (k, d) :: ds, _, h => by
    simp only [DatKT] at h ⊢
    obtain ⟨j, v, r, e, ek, h1, h2⟩ := h
    exact ⟨j, v, r, e, ek, Dat.mv m h1, DatKT.mv m h2⟩
theorem DatT.mv (m : Mv M H M' H') : ∀ {ds : List (D × D)} {kv : List (List Key × V)}, DatT K M H ds kv → DatT K M' H' ds kv
  | [], _, h => by
    simp only [DatT] at h
  | (k, d) :: ds, _, h => by
    simp only [DatT] at h ⊢
    exact ⟨h.1, h.2.1, DatKT.mv m h.2.2⟩
end
theorem DatAll.nil : DatAll K M H [] [] := by simp only [DatAll]
theorem DatAll.cons {d : D} {v : V} {ds : List D} {vs : List V} (h : Dat K M H d v) (t : DatAll K M H ds vs) : DatAll K M H (d :: ds) (v :: vs) := by
  simp only [DatAll]
  exact ⟨v, vs, rfl, h, t⟩
theorem DatAll.cons_inv {d : D} {ds : List D} {vs : List V} (h : DatAll K M H (d :: ds) vs) : ∃ v r, vs = v :: r ∧ Dat K M H d v ∧ DatAll K M H ds r := by
  simpa only [DatAll] using h
theorem DatAll.nil_inv {vs : List V} (h : DatAll K M H [] vs) : vs = [] := by simpa only [DatAll] using h
theorem DatAll.length : ∀ {ds : List D} {vs : List V}, DatAll K M H ds vs → vs.length = ds.length
  | [], _, h => by rw [h.nil_inv]; rfl
  | d :: ds, _, h => by
    obtain ⟨v, r, rfl, _, h2⟩ := h.cons_inv
    rw [List.length_cons, List.length_cons, h2.length]
theorem DatAll.append : ∀ {ds es : List D} {vs us : List V}, DatAll K M H ds vs → DatAll K M H es us → DatAll K M H (ds ++ es) (vs ++ us)
  | [], _, _, _, h, g => by rw [h.nil_inv]; exact g
  | d :: ds, _, _, _, h, g => by
    obtain ⟨v, r, rfl, h1, h2⟩ := h.cons_inv
    exact .cons h1 (h2.append g)
theorem DatAll.get : ∀ {ds : List D} {vs : List V} {i : Nat} {d : D}, DatAll K M H ds vs → ds[i]? = some d → ∃ v, vs[i]? = some v ∧ Dat K M H d v
  | [], _, _, _, _, e => by simp at e
  | d :: ds, _, 0, _, h, e => by
    obtain ⟨v, r, rfl, h1, _⟩ := h.cons_inv
    simp at e
    subst e
    exact ⟨v, rfl, h1⟩
  | d :: ds, _, i + 1, _, h, e => by
    obtain ⟨v, r, rfl, _, h2⟩ := h.cons_inv
    obtain ⟨u, e1, e2⟩ := h2.get (i := i) (by simpa using e)
    exact ⟨u, by simpa using e1, e2⟩
theorem DatAll.get' : ∀ {ds : List D} {vs : List V} {i : Nat} {v : V}, DatAll K M H ds vs → vs[i]? = some v → ∃ d, ds[i]? = some d ∧ Dat K M H d v
  | [], _, _, _, h, e => by
    rw [h.nil_inv] at e
    simp at e
  | d :: ds, _, 0, _, h, e => by
    obtain ⟨v, r, rfl, h1, _⟩ := h.cons_inv
    simp at e
    subst e
    exact ⟨d, rfl, h1⟩
  | d :: ds, _, i + 1, _, h, e => by
    obtain ⟨v, r, rfl, _, h2⟩ := h.cons_inv
    obtain ⟨u, e1, e2⟩ := h2.get' (i := i) (by simpa using e)
    exact ⟨u, by simpa using e1, e2⟩
theorem DatAll.take : ∀ {ds : List D} {vs : List V} (n : Nat), DatAll K M H ds vs → DatAll K M H (ds.take n) (vs.take n)
  | [], _, n, h => by rw [h.nil_inv]; simp [DatAll.nil]
  | d :: ds, _, 0, h => by simp [DatAll.nil]
  | d :: ds, _, n + 1, h => by
    obtain ⟨v, r, rfl, h1, h2⟩ := h.cons_inv
    exact .cons h1 (h2.take n)
theorem DatAll.drop : ∀ {ds : List D} {vs : List V} (n : Nat), DatAll K M H ds vs → DatAll K M H (ds.drop n) (vs.drop n)
  | [], _, n, h => by rw [h.nil_inv]; simp [DatAll.nil]
  | d :: ds, _, 0, h => h
  | d :: ds, _, n + 1, h => by
    obtain ⟨v, r, rfl, h1, h2⟩ := h.cons_inv
    exact h2.drop n
theorem DatAll.set : ∀ {ds : List D} {vs : List V} {d : D} {v : V} (i : Nat), DatAll K M H ds vs → Dat K M H d v → DatAll K M H (ds.set i d) (vs.set i v)
  | [], _, _, _, _, h, _ => by rw [h.nil_inv]; exact .nil
  | d :: ds, _, _, _, 0, h, g => by
    obtain ⟨u, r, rfl, h1, h2⟩ := h.cons_inv
    exact .cons g h2
  | d :: ds, _, _, _, i + 1, h, g => by
    obtain ⟨u, r, rfl, h1, h2⟩ := h.cons_inv
    exact .cons h1 (h2.set i g)
theorem DatAll.reverse : ∀ {ds : List D} {vs : List V}, DatAll K M H ds vs → DatAll K M H ds.reverse vs.reverse
  | [], _, h => by rw [h.nil_inv]; exact .nil
  | d :: ds, _, h => by
    obtain ⟨u, r, rfl, h1, h2⟩ := h.cons_inv
    rw [List.reverse_cons, List.reverse_cons]
    exact h2.reverse.append (.cons h1 .nil)
theorem DatAll.ints : ∀ (ns : List Int), DatAll K M H (ns.map .int) (ns.map .int)
  | [] => .nil
  | n :: ns => .cons (by simp only [Dat]) (DatAll.ints ns)
end

/-! ### the frame's data -/
/-- a refusal in the air: its class's name, its fields -/
structure Exn where
  cls : Str
  fs : List (Str × D)
/-- what is known of a slot: a datum; a container that nobody else holds; one that is the caller's, lent; an exception that is handled -/
inductive Cell where
  | val (d : D)
  | own (d : D)
  | ref (d : D)
  | exc (a : Addr) (dd : Option Addr) (x : Exn)
abbrev DEnv := List (Option Cell)
/-- is it lent, or pinned -/
def isRef : Option (Option Cell) → Bool
  | some (some (.ref _)) => true
  | some (some (.exc _ _ _)) => true
  | _ => false
/-- what is known of a frame beside its data: slots that hold one value throughout, objects that stay as they are -/
class Reg where
  pins : List (Nat × V)
  objs : List (Addr × HO)
/-- the tables of code objects that grow -/
class TabC where
  T : List NdefX.NTab

/-- the container at a holds d -/
def Cont (K : PySem.W.Frag) (M : Msk) (H : Hp) (a : Addr) : D → Prop
  | .list ds => ∃ xs, H a = some (.lst xs) ∧ DatAll K M H ds xs
  | .dict ds => (∃ kv, H a = some (.dK kv) ∧ DatKV K M H ds kv) ∨ ∃ kt, H a = some (.dT kt) ∧ DatT K M H ds kt
  | _ => False
theorem Cont.some {K : PySem.W.Frag} {M : Msk} {H : Hp} {a : Addr} {d : D} (h : Cont K M H a d) : ∃ o, H a = some o := by
  cases d with
  | list ds => obtain ⟨_, e, _⟩ := h; exact ⟨_, e⟩
  | dict ds => rcases h with ⟨_, e, _⟩ | ⟨_, e, _⟩ <;> exact ⟨_, e⟩
  | none => exact h.elim
  | bool _ => exact h.elim
  | int _ => exact h.elim
  | str _ => exact h.elim
  | tuple _ => exact h.elim
theorem Cont.mv {K : PySem.W.Frag} {M M' : Msk} {H H' : Hp} {a : Addr} {d : D} (m : Mv M H M' H') (e : H' a = H a) (h : Cont K M H a d) : Cont K M' H' a d := by
  cases d with
  | list ds => obtain ⟨xs, q, r⟩ := h; exact ⟨xs, e.trans q, r.mv m⟩
  | dict ds =>
    rcases h with ⟨xs, q, r⟩ | ⟨xs, q, r⟩
    · exact .inl ⟨xs, e.trans q, r.mv m⟩
    · exact .inr ⟨xs, e.trans q, r.mv m⟩
  | none => exact h.elim
  | bool _ => exact h.elim
  | int _ => exact h.elim
  | str _ => exact h.elim
  | tuple _ => exact h.elim
theorem Cont.dat {K : PySem.W.Frag} {M : Msk} {H : Hp} {a : Addr} {d : D} (n : ¬ M a) (h : Cont K M H a d) : Dat K M H d (.ref a) := by
  cases d with
  | list ds => obtain ⟨xs, q, r⟩ := h; simp only [Dat]; exact ⟨a, xs, rfl, .inl ⟨n, .inl q⟩, r⟩
  | dict ds =>
    simp only [Dat]
    rcases h with ⟨xs, q, r⟩ | ⟨xs, q, r⟩
    · exact .inl ⟨a, xs, rfl, ⟨n, .inl q⟩, r⟩
    · exact .inr ⟨a, xs, rfl, ⟨n, q⟩, r⟩
  | none => exact h.elim
  | bool _ => exact h.elim
  | int _ => exact h.elim
  | str _ => exact h.elim
  | tuple _ => exact h.elim

def Owned (σ : St) (δ : DEnv) (a : Addr) : Prop := ∃ (i : Nat) (d : D), δ[i]? = some (some (Cell.own d)) ∧ σ[i]? = some (some (.ref a))
def Lent (σ : St) (δ : DEnv) (a : Addr) : Prop := ∃ (i : Nat) (d : D), δ[i]? = some (some (Cell.ref d)) ∧ σ[i]? = some (some (.ref a))
def msk (Mi : Msk) (σ : St) (δ : DEnv) : Msk := fun a => Mi a ∨ Owned σ δ a

/-- a field's data of an exception's own dict -/
def FldsR (K : PySem.W.Frag) (M : Msk) (H : Hp) : List (Str × D) → List (Str × V) → Prop
  | [], l => l = []
  | (f, d) :: r, l => ∃ v t, l = (f, v) :: t ∧ Dat K M H d v ∧ FldsR K M H r t
theorem FldsR.mv {K : PySem.W.Frag} {M M' : Msk} {H H' : Hp} (m : Mv M H M' H') : ∀ {fs : List (Str × D)} {l : List (Str × V)}, FldsR K M H fs l → FldsR K M' H' fs l
  | [], _, h => h
  | (f, d) :: r, _, h => by
    obtain ⟨v, t, e, h1, h2⟩ := h
    exact ⟨v, t, e, h1.mv m, FldsR.mv m h2⟩
/-- the exception's own dict -/
def ExcD (K : PySem.W.Frag) (M : Msk) (H : Hp) (dd : Option Addr) (x : Exn) : Prop :=
  (x.fs = [] ∧ dd = none) ∨ ∃ dx l, x.fs ≠ [] ∧ dd = some dx ∧ ¬ M dx ∧ H dx = some (.xd l) ∧ FldsR K M H x.fs l
theorem ExcD.mv {K : PySem.W.Frag} {M M' : Msk} {H H' : Hp} {dd : Option Addr} {x : Exn} (m : Mv M H M' H') (h : ExcD K M H dd x) : ExcD K M' H' dd x := by
  rcases h with h | ⟨dx, l, e0, e, n, q, r⟩
  · exact .inl h
  · obtain ⟨n', q'⟩ := m _ _ n q nt_xd
    exact .inr ⟨dx, l, e0, e, n', q', r.mv m⟩

/-- an exception that is handled; a captured value (of no class); a function (without fields) -/
def ExcR [Reg] (K : PySem.W.Frag) (M : Msk) (H : Hp) (v : V) (x : Exn) : Prop :=
  (x.cls = "" → ∀ p ∈ x.fs, Dat K M H p.2 v) ∧ ∀ p ∈ Reg.objs, NT p.2 ∧ ¬ M p.1 ∧ H p.1 = some p.2
theorem ExcR.mv [Reg] {K : PySem.W.Frag} {M M' : Msk} {H H' : Hp} {v : V} {x : Exn} (m : Mv M H M' H') (h : ExcR K M H v x) : ExcR K M' H' v x :=
  ⟨fun e p hp => Dat.mv m (h.1 e p hp), fun p hp => ⟨(h.2 p hp).1, m _ _ (h.2 p hp).2.1 (h.2 p hp).2.2 (h.2 p hp).1⟩⟩
def CellR [Reg] (K : PySem.W.Frag) (Mi M : Msk) (H : Hp) (v : V) : Cell → Prop
  | .val d => Dat K M H d v
  | .own d => ∃ a, v = .ref a ∧ ¬ Mi a ∧ Cont K M H a d
  | .ref d => ∃ a, v = .ref a ∧ Mi a ∧ Cont K M H a d
  | .exc _ _ x => ExcR K M H v x
def Cell.isMut : Cell → Bool
  | .own _ | .ref _ => true
  | _ => false

structure Rep [Reg] [TabC] (K : PySem.W.Frag) (Mi : Msk) (σ : St) (H : Hp) (δ : DEnv) : Prop where
  len : δ.length ≤ σ.length
  cell : ∀ (i : Nat) (c : Cell), δ[i]? = some (some c) → ∃ v, σ[i]? = some (some v) ∧ CellR K Mi (msk Mi σ δ) H v c
  sep : ∀ (i j : Nat) (c c' : Cell) (a : Addr), i ≠ j → δ[i]? = some (some c) → δ[j]? = some (some c') → c.isMut = true → c'.isMut = true → σ[i]? = some (some (.ref a)) → σ[j]? = some (some (.ref a)) → False
  dom : ∀ a, Mi a → H a ≠ none
  pin : ∀ p ∈ Reg.pins, σ[p.1]? = some (some p.2) ∧ isRef δ[p.1]? = true
  tab : NdefX.TabsN TabC.T H

/-- from one state of the frame to a later one; Mo: what is out of bounds afterwards -/
structure Go [Reg] [TabC] (K : PySem.W.Frag) (Mi Mo : Msk) (σ : St) (H : Hp) (δ : DEnv) (σ' : St) (H' : Hp) (δ' : DEnv) : Prop where
  rep : Rep K Mo σ' H' δ'
  stab : ∀ a o, ¬ Owned σ δ a → ¬ Lent σ δ a → H a = some o → NT o → H' a = some o
  own : ∀ a, Owned σ' δ' a → Owned σ δ a ∨ H a = none
  lent : ∀ (i : Nat), (∃ d, δ[i]? = some (some (Cell.ref d))) → σ'[i]? = σ[i]? ∧ ∃ d', δ'[i]? = some (some (Cell.ref d'))
  lentB : ∀ (i : Nat), (∃ d, δ'[i]? = some (some (Cell.ref d))) → ∃ d, δ[i]? = some (some (Cell.ref d))
  trk : ∀ a, H' a = none → H a = none

section
variable [Reg] [TabC]
variable {K : PySem.W.Frag} {Mi Mo : Msk} {σ σ' σ2 : St} {H H' H2 : Hp} {δ δ' δ2 : DEnv}
theorem Rep.dom' (R : Rep K Mi σ H δ) {a : Addr} (h : msk Mi σ δ a) : H a ≠ none := by
  rcases h with h | ⟨i, d, e1, e2⟩
  · exact R.dom a h
  · obtain ⟨v, e3, b, rfl, _, c⟩ := R.cell i _ e1
    rw [e2] at e3
    cases e3
    obtain ⟨o, q⟩ := c.some
    rw [q]
    exact Option.some_ne_none _
theorem Rep.lent_in (R : Rep K Mi σ H δ) {a : Addr} (h : Lent σ δ a) : Mi a := by
  obtain ⟨i, d, e1, e2⟩ := h
  obtain ⟨v, e3, b, rfl, m, c⟩ := R.cell i _ e1
  rw [e2] at e3
  cases e3
  exact m
theorem Rep.own_out (R : Rep K Mi σ H δ) {a : Addr} (h : Owned σ δ a) : ¬ Mi a := by
  obtain ⟨i, d, e1, e2⟩ := h
  obtain ⟨v, e3, b, rfl, m, c⟩ := R.cell i _ e1
  rw [e2] at e3
  cases e3
  exact m
theorem Go.refl (R : Rep K Mi σ H δ) : Go K Mi Mi σ H δ σ H δ := ⟨R, fun _ _ _ _ e _ => e, fun _ h => .inl h, fun _ h => ⟨rfl, h⟩, fun _ h => h, fun _ h => h⟩
/-- what was readable is -/
theorem Go.mvW (R : Rep K Mi σ H δ) (g : Go K Mi Mo σ H δ σ' H' δ') (hm : ∀ a, Mo a → msk Mi σ δ a ∨ H a = none) : Mv (msk Mi σ δ) H (msk Mo σ' δ') H' := fun a o n e nt => by
  have n1 : ¬ Owned σ δ a := fun z => n (.inr z)
  have n2 : ¬ Lent σ δ a := fun z => n (.inl (R.lent_in z))
  refine ⟨fun z => ?_, g.stab a o n1 n2 e nt⟩
  rcases z with z | z
  · rcases hm a z with q | q
    · exact n q
    · rw [e] at q
      cases q
  · rcases g.own a z with q | q
    · exact n1 q
    · rw [e] at q
      cases q
theorem Go.mv (R : Rep K Mi σ H δ) (g : Go K Mi Mi σ H δ σ' H' δ') : Mv (msk Mi σ δ) H (msk Mi σ' δ') H' := g.mvW R fun _ h => .inl (.inl h)
theorem Lent.of (g : Go K Mi Mo σ H δ σ' H' δ') {a : Addr} (h : Lent σ' δ' a) : Lent σ δ a := by
  obtain ⟨i, d, e1, e2⟩ := h
  obtain ⟨d0, e0⟩ := g.lentB i ⟨d, e1⟩
  obtain ⟨q, _⟩ := g.lent i ⟨d0, e0⟩
  exact ⟨i, d0, e0, by rw [← q]; exact e2⟩
theorem Lent.to (g : Go K Mi Mo σ H δ σ' H' δ') {a : Addr} (h : Lent σ δ a) : Lent σ' δ' a := by
  obtain ⟨i, d, e1, e2⟩ := h
  obtain ⟨q, d', e'⟩ := g.lent i ⟨d, e1⟩
  exact ⟨i, d', e', by rw [q]; exact e2⟩
theorem Go.trans {Mo1 : Msk} (a : Go K Mi Mo1 σ H δ σ' H' δ') (b : Go K Mo1 Mo σ' H' δ' σ2 H2 δ2) : Go K Mi Mo σ H δ σ2 H2 δ2 where
  rep := b.rep
  stab := fun x o n1 n2 e nt => by
    have e1 := a.stab x o n1 n2 e nt
    refine b.stab x o (fun z => ?_) (fun z => n2 (Lent.of a z)) e1 nt
    rcases a.own x z with q | q
    · exact n1 q
    · rw [e] at q
      cases q
  own := fun x h => by
    rcases b.own x h with q | q
    · exact a.own x q
    · exact .inr (a.trk x q)
  lent := fun i h => by
    obtain ⟨q, d', e'⟩ := a.lent i h
    obtain ⟨q2, r⟩ := b.lent i ⟨d', e'⟩
    exact ⟨q2.trans q, r⟩
  lentB := fun i h => a.lentB i (b.lentB i h)
  trk := fun x h => a.trk x (b.trk x h)
end
end Dl
namespace Dl
open PySem PySem.Spec PyProof.Rows L2
/-- a frame of which nothing more is known -/
instance (priority := low) regI : Reg := ⟨[], []⟩
/-- no tables -/
instance (priority := low) tabI : TabC := ⟨[]⟩
abbrev Rep0 [TabC] := @Rep regI _
abbrev Go0 [TabC] := @Go regI _
section
variable [TabC] {K : PySem.W.Frag} {Mi Mo : Msk} {σ σ' : St} {H H' : Hp} {δ δ' : DEnv}
theorem g0_rep (g : Go0 K Mi Mo σ H δ σ' H' δ') : Rep0 K Mo σ' H' δ' := g.rep
theorem g0_stab (g : Go0 K Mi Mo σ H δ σ' H' δ') : ∀ a o, ¬ Owned σ δ a → ¬ Lent σ δ a → H a = some o → NT o → H' a = some o := g.stab
theorem g0_lent (g : Go0 K Mi Mo σ H δ σ' H' δ') : ∀ (i : Nat), (∃ d, δ[i]? = some (some (Cell.ref d))) → σ'[i]? = σ[i]? ∧ ∃ d', δ'[i]? = some (some (Cell.ref d')) := g.lent
theorem g0_trk (g : Go0 K Mi Mo σ H δ σ' H' δ') : ∀ a, H' a = none → H a = none := g.trk
theorem r0_cell (R : Rep0 K Mi σ H δ) : ∀ (i : Nat) (c : Cell), δ[i]? = some (some c) → ∃ v, σ[i]? = some (some v) ∧ @CellR regI K Mi (msk Mi σ δ) H v c := R.cell
theorem r0_tab (R : Rep0 K Mi σ H δ) : NdefX.TabsN TabC.T H := R.tab
theorem r0_mk (h1 : δ.length ≤ σ.length) (h2 : ∀ (i : Nat) (c : Cell), δ[i]? = some (some c) → ∃ v, σ[i]? = some (some v) ∧ @CellR regI K Mi (msk Mi σ δ) H v c)
    (h3 : ∀ (i j : Nat) (c c' : Cell) (a : Addr), i ≠ j → δ[i]? = some (some c) → δ[j]? = some (some c') → c.isMut = true → c'.isMut = true → σ[i]? = some (some (.ref a)) → σ[j]? = some (some (.ref a)) → False)
    (h4 : ∀ a, Mi a → H a ≠ none) (h5 : NdefX.TabsN TabC.T H) : Rep0 K Mi σ H δ := ⟨h1, h2, h3, h4, fun p hp => (List.not_mem_nil hp).elim, h5⟩
end
end Dl

set_option Elab.async false
set_option linter.all false
set_option maxRecDepth 100000
namespace Dl
open PySem PySem.Spec PyProof.Rows L2
variable [Reg] [TabC]

/-! ### results of data-level functions -/
inductive R (α : Type) where
  | ok (a : α) (δ : DEnv)
  | err (x : Exn) (δ : DEnv)
  | bad
def R.bind {α β : Type} : R α → (α → DEnv → R β) → R β
  | .ok a δ, g => g a δ
  | .err x δ, _ => .err x δ
  | .bad, _ => .bad
def R.of {α : Type} (o : Option α) (δ : DEnv) : R α :=
  match o with
  | some a => .ok a δ
  | none => .bad
/-- a data-level function of the frame -/
abbrev Fe (α : Type) := DEnv → R α

/-- the class that a name means -/
def ClsOf (X : Cx) (n : Str) (c : Value) : Prop := X.mg n = some c ∨ (X.mg n = none ∧ bootBuiltins n = some c)
def ErrTo (X : Cx) (W : WX) (Mi : Msk) (σ : St) (H : Hp) (δ : DEnv) (x : Exn) (δ' : DEnv) : Prop :=
  ∀ cls dd σ' H', ClsOf X x.cls cls → Go X.K Mi Mi σ H δ σ' H' δ' → ExcD X.K (msk Mi σ' δ') H' dd x → W cls dd σ' H'

/-- what a result of type α says of a β -/
abbrev Rl (α β : Type) := Msk → α → St → DEnv → Hp → β → Prop
def RunG {α β : Type} (X : Cx) (W : WX) (P : Rl α β) (Mi : Msk) (σ : St) (H : Hp) (δ : DEnv) (r : R α) (Q : β → Hp → Prop) : Prop :=
  match r with
  | .ok a δ' => ∀ v H', Go X.K Mi Mi σ H δ σ H' δ' → P Mi a σ δ' H' v → Q v H'
  | .err x δ' => ErrTo X W Mi σ H δ x δ'
  | .bad => False
def tG {α β : Type} (X : Cx) (W : WX) (P : Rl α β) (F : Fe α) : St → Hp → (β → Hp → Prop) → Prop :=
  fun σ H Q => ∃ Mi δ, Rep X.K Mi σ H δ ∧ RunG X W P Mi σ H δ (F δ) Q

def pD (X : Cx) : Rl D V := fun Mi d σ δ H v => Dat X.K (msk Mi σ δ) H d v
def pA (X : Cx) : Rl (List D) (List V) := fun Mi ds σ δ H vs => DatAll X.K (msk Mi σ δ) H ds vs
def pB : Rl Bool Bool := fun _ b _ _ _ c => c = b
/-- an operand: a datum that lies ready, or a slot whose datum is looked at in place -/
inductive Opd where
  | tmp (d : D)
  | var (i : Nat)
def peek (δ : DEnv) (i : Nat) : Option D :=
  match δ[i]? with
  | some (some (.val d)) => some d
  | some (some (.own d)) => some d
  | some (some (.ref d)) => some d
  | _ => none
def opd (δ : DEnv) : Opd → Option D
  | .tmp d => some d
  | .var i => peek δ i
def pO (X : Cx) : Rl Opd V := fun Mi o σ δ H v =>
  match o with
  | .tmp d => Dat X.K (msk Mi σ δ) H d v
  | .var i => σ[i]? = some (some v)
/-- a datum that may be looked at -/
def Pk (K : PySem.W.Frag) (M : Msk) (H : Hp) (d : D) (v : V) : Prop := Dat K M H d v ∨ ∃ a, v = .ref a ∧ Cont K M H a d

/-- e is read as F -/
def DE (X : Cx) (W : WX) (e : Expr) (F : Fe D) : Prop := PE X e (tG X W (pD X) F)
def DP (X : Cx) (W : WX) (e : Expr) (F : Fe Opd) : Prop := PE X e (tG X W (pO X) F)
def DT (X : Cx) (W : WX) (e : Expr) (F : Fe Bool) : Prop := PT X e (tG X W pB F)
def DA (X : Cx) (W : WX) (es : List Expr) (F : Fe (List D)) : Prop := PA X es (tG X W (pA X) F)

section
variable {X : Cx} {W : WX}
theorem PE.imp {e : Expr} {t t' : TE} (h : PE X e t) (i : ∀ σ H Q, t' σ H Q → t σ H Q) : PE X e t' := ⟨fun pins s σ H Q I q => h.run pins s σ H Q I (i σ H Q q)⟩
theorem PT.imp {e : Expr} {t t' : TT} (h : PT X e t) (i : ∀ σ H Q, t' σ H Q → t σ H Q) : PT X e t' := ⟨fun pins s σ H Q I q => h.run pins s σ H Q I (i σ H Q q)⟩
theorem PA.imp {e : List Expr} {t t' : TA} (h : PA X e t) (i : ∀ σ H Q, t' σ H Q → t σ H Q) : PA X e t' := ⟨fun pos pins s σ H Q I q => h.run pos pins s σ H Q I (i σ H Q q)⟩
theorem PS.imp {e : Stmt} {t t' : TS} (h : PS X e t) (i : ∀ σ H Q, t' Q σ H → t Q σ H) : PS X e t' := ⟨fun pins s σ H Q I q => h.run pins s σ H Q I (i σ H Q q)⟩
theorem PSs.imp {e : List Stmt} {t t' : TS} (h : PSs X e t) (i : ∀ σ H Q, t' Q σ H → t Q σ H) : PSs X e t' := ⟨fun pins s σ H Q I q => h.run pins s σ H Q I (i σ H Q q)⟩

variable {α β γ ε : Type} {P : Rl α β} {P' : Rl γ ε} {Mi : Msk} {σ : St} {H H1 : Hp} {δ δ1 : DEnv}
theorem ErrTo.go {x : Exn} {δ' : DEnv} (g : Go X.K Mi Mi σ H δ σ H1 δ1) (h : ErrTo X W Mi σ H δ x δ') : ErrTo X W Mi σ H1 δ1 x δ' := fun cls dd σ' H' c g' e => h cls dd σ' H' c (g.trans g') e
theorem RunG.go {r : R α} {Q : β → Hp → Prop} (g : Go X.K Mi Mi σ H δ σ H1 δ1) (h : RunG X W P Mi σ H δ r Q) : RunG X W P Mi σ H1 δ1 r Q := by
  cases r with
  | ok a δ' => exact fun v H' g' p => h v H' (g.trans g') p
  | err x δ' => exact ErrTo.go g h
  | bad => exact h
theorem RunG.imp {r : R α} {Q Q' : β → Hp → Prop} (h : RunG X W P Mi σ H δ r Q) (q : ∀ v H', Q v H' → Q' v H') : RunG X W P Mi σ H δ r Q' := by
  cases r with
  | ok a δ' => exact fun v H' g' p => q v H' (h v H' g' p)
  | err x δ' => exact h
  | bad => exact h
theorem RunG.bind {r : R α} {G : α → DEnv → R γ} {Q : ε → Hp → Prop} (h : RunG X W P' Mi σ H δ (r.bind G) Q) :
    RunG X W P Mi σ H δ r fun v H1 => ∃ a δ1, Go X.K Mi Mi σ H δ σ H1 δ1 ∧ P Mi a σ δ1 H1 v ∧ RunG X W P' Mi σ H1 δ1 (G a δ1) Q := by
  cases r with
  | ok a δ' => exact fun v H' g' p => ⟨a, δ', g', p, RunG.go g' h⟩
  | err x δ' => exact h
  | bad => exact h
/-- the first of some steps -/
theorem tG_bind {F : Fe α} {G : α → DEnv → R γ} {Q : ε → Hp → Prop} (h : tG X W P' (fun δ => (F δ).bind G) σ H Q) :
    tG X W P F σ H fun v H1 => ∃ Mi a δ1, Rep X.K Mi σ H1 δ1 ∧ P Mi a σ δ1 H1 v ∧ RunG X W P' Mi σ H1 δ1 (G a δ1) Q := by
  obtain ⟨Mi, δ, R, h⟩ := h
  exact ⟨Mi, δ, R, h.bind.imp fun v H' ⟨a, δ1, g, p, r⟩ => ⟨Mi, a, δ1, g.rep, p, r⟩⟩
/-- what later steps leave as it is -/
def Stays {X : Cx} {α β : Type} (P : Rl α β) : Prop := ∀ Mi a σ δ H v H' δ', Rep X.K Mi σ H δ → Go X.K Mi Mi σ H δ σ H' δ' → P Mi a σ δ H v → P Mi a σ δ' H' v
theorem stays_D : Stays (X := X) (pD X) := fun Mi a σ δ H v H' δ' R g p => Dat.mv (g.mv R) p
theorem stays_O : Stays (X := X) (pO X) := fun Mi a σ δ H v H' δ' R g p => by
  cases a with
  | tmp d => exact Dat.mv (g.mv R) p
  | var i => exact p
variable {ζ θ : Type} {P2 : Rl ζ θ}
/-- the first two of some steps -/
theorem tG_bind2 (st : Stays (X := X) P) {F : Fe α} {F2 : Fe ζ} {G : α → ζ → DEnv → R γ} {Q : ε → Hp → Prop} (h : tG X W P' (fun δ => (F δ).bind fun a δ1 => (F2 δ1).bind (G a)) σ H Q) :
    tG X W P F σ H fun v H1 => tG X W P2 F2 σ H1 fun u H2 => ∃ Mi a b δ2, Rep X.K Mi σ H2 δ2 ∧ P Mi a σ δ2 H2 v ∧ P2 Mi b σ δ2 H2 u ∧ RunG X W P' Mi σ H2 δ2 (G a b δ2) Q := by
  obtain ⟨Mi, δ, R, h⟩ := h
  refine ⟨Mi, δ, R, h.bind.imp fun v H1 ⟨a, δ1, g, p, r⟩ => ⟨Mi, δ1, g.rep, r.bind.imp fun u H2 ⟨b, δ2, g2, p2, r2⟩ => ⟨Mi, a, b, δ2, g2.rep, st _ _ _ _ _ _ _ _ g.rep g2 p, p2, r2⟩⟩⟩

/-! ### objects that are only added -/
def Al (H H' : Hp) : Prop := ∀ a o, H a = some o → H' a = some o
theorem Al.refl {H : Hp} : Al H H := fun _ _ e => e
theorem Al.trans {H H1 H2 : Hp} (a : Al H H1) (b : Al H1 H2) : Al H H2 := fun x o e => b x o (a x o e)
theorem Al.new {H : Hp} {p : Addr} {o : HO} (n : H p = none) : Al H (upd H p o) := fun a u e => by
  rw [upd_ne (ne_of_none e n)]
  exact e
theorem Al.mv {M : Msk} {H H' : Hp} (a : Al H H') : Mv M H M H' := fun x o n e _ => ⟨n, a x o e⟩
theorem Rep.al {K : PySem.W.Frag} {H' : Hp} (R : Rep K Mi σ H δ) (a : Al H H') : Rep K Mi σ H' δ where
  len := R.len
  cell := fun i c e => by
    obtain ⟨v, e1, r⟩ := R.cell i c e
    refine ⟨v, e1, ?_⟩
    cases c with
    | val d => exact Dat.mv a.mv r
    | own d =>
      obtain ⟨b, e2, n, q⟩ := r
      obtain ⟨o, eo⟩ := q.some
      exact ⟨b, e2, n, q.mv a.mv ((a b o eo).trans eo.symm)⟩
    | ref d =>
      obtain ⟨b, e2, n, q⟩ := r
      obtain ⟨o, eo⟩ := q.some
      exact ⟨b, e2, n, q.mv a.mv ((a b o eo).trans eo.symm)⟩
    | exc b dd x => exact ExcR.mv a.mv r
  sep := R.sep
  dom := fun x hx => by
    cases e : H x with
    | none => exact absurd e (R.dom x hx)
    | some o =>
      rw [a x o e]
      exact Option.some_ne_none _
  pin := R.pin
  tab := R.tab.ext a
theorem Go.al {K : PySem.W.Frag} {H' : Hp} (R : Rep K Mi σ H δ) (a : Al H H') : Go K Mi Mi σ H δ σ H' δ := ⟨R.al a, fun x o _ _ e _ => a x o e, fun _ h => .inl h, fun _ h => ⟨rfl, h⟩, fun _ h => h, fun x h => by
  cases e : H x with
  | none => rfl
  | some o =>
    rw [a x o e] at h
    cases h⟩

/-! ### names, constants -/
def rdVar (i : Nat) : Fe D := fun δ =>
  match δ[i]? with
  | some (some (.val d)) => .ok d δ
  | some (some (.own d)) => .ok d (δ.set i (some (.val d)))
  | _ => .bad
def pkVar (i : Nat) : Fe Opd := fun δ =>
  match peek δ i with
  | some _ => .ok (.var i) δ
  | none => .bad
theorem set_get {l : DEnv} {i j : Nat} {c x : Option Cell} (h : (l.set i x)[j]? = some c) : (j = i ∧ c = x) ∨ (j ≠ i ∧ l[j]? = some c) := by
  by_cases e : i = j
  · subst e
    rw [List.getElem?_set] at h
    simp only [if_true] at h
    split at h
    · exact .inl ⟨rfl, (Option.some.inj h).symm⟩
    · cases h
  · rw [List.getElem?_set_ne e] at h
    exact .inr ⟨fun z => e z.symm, h⟩
/-- a pinned slot is another one -/
theorem pin_far {j i : Nat} {d : D} {y : Option Cell} (h : isRef δ[j]? = true) (e : δ[i]? = some (some (.own d))) : isRef (δ.set i y)[j]? = true := by
  rw [List.getElem?_set_ne (fun z => by
    subst z
    rw [e] at h
    cases h)]
  exact h
/-- an owned container is given up: it may be shared -/
theorem Go.share {K : PySem.W.Frag} {i : Nat} {d : D} (R : Rep K Mi σ H δ) (e : δ[i]? = some (some (.own d))) :
    Go K Mi Mi σ H δ σ H (δ.set i (some (.val d))) ∧ ∀ v, σ[i]? = some (some v) → Dat K (msk Mi σ (δ.set i (some (.val d)))) H d v := by
  obtain ⟨v, ev, a, rfl, na, ct⟩ := R.cell i _ e
  have own_ : ∀ b, Owned σ (δ.set i (some (.val d))) b → Owned σ δ b ∧ b ≠ a := fun b ⟨j, d', e1, e2⟩ => by
    rcases set_get e1 with ⟨_, z⟩ | ⟨ne, z⟩
    · cases z
    · refine ⟨⟨j, d', z, e2⟩, fun q => ?_⟩
      subst q
      exact R.sep j i _ _ b ne z e rfl rfl e2 ev
  have mv : Mv (msk Mi σ δ) H (msk Mi σ (δ.set i (some (.val d)))) H := fun b o n q _ => ⟨fun z => n (z.elim .inl fun y => .inr (own_ b y).1), q⟩
  have na' : ¬ msk Mi σ (δ.set i (some (.val d))) a := fun z => z.elim na fun y => (own_ a y).2 rfl
  have dat : ∀ v, σ[i]? = some (some v) → Dat K (msk Mi σ (δ.set i (some (.val d)))) H d v := fun v q => by
    rw [ev] at q
    cases q
    exact (ct.mv mv rfl).dat na'
  refine ⟨⟨⟨by rw [List.length_set]; exact R.len, fun j c ec => ?_, fun j k c c' b ne e1 e2 m1 m2 s1 s2 => ?_, R.dom, fun p hp => ⟨(R.pin p hp).1, pin_far (R.pin p hp).2 e⟩, R.tab⟩, fun _ _ _ _ q _ => q, fun b h => .inl (own_ b h).1, fun j ⟨d', q⟩ => ?_, fun j ⟨d', q⟩ => ?_, fun _ h => h⟩, dat⟩
  · rcases set_get ec with ⟨rfl, z⟩ | ⟨ne, z⟩
    · cases z
      exact ⟨_, ev, dat _ ev⟩
    · obtain ⟨u, eu, r⟩ := R.cell j c z
      refine ⟨u, eu, ?_⟩
      cases c with
      | val d' => exact Dat.mv mv r
      | own d' =>
        obtain ⟨b, e2, n, q⟩ := r
        exact ⟨b, e2, n, q.mv mv rfl⟩
      | ref d' =>
        obtain ⟨b, e2, n, q⟩ := r
        exact ⟨b, e2, n, q.mv mv rfl⟩
      | exc b dd x => exact ExcR.mv mv r
  · rcases set_get e1 with ⟨_, z⟩ | ⟨_, z1⟩
    · cases z
      cases m1
    · rcases set_get e2 with ⟨_, z⟩ | ⟨_, z2⟩
      · cases z
        cases m2
      · exact R.sep j k c c' b ne z1 z2 m1 m2 s1 s2
  · refine ⟨rfl, d', ?_⟩
    rw [List.getElem?_set_ne (fun z => by
      subst z
      rw [e] at q
      cases q)]
    exact q
  · rcases set_get q with ⟨_, z⟩ | ⟨_, z⟩
    · cases z
    · exact ⟨d', z⟩
theorem de_var {i : Nat} {x : Str} {pos : Pos} (hN : X.N[i]? = some x) (hv : Vis X.env.scope x) (hd : (x == ("__debug__" : Str)) = false := by decide +kernel) (hcd : (x == ("__classdict__" : Str)) = false := by decide +kernel) : DE X W (.Name x pos) (rdVar i) := by
  refine PE.imp (pe_var hN hv hd hcd) fun σ H Q h => ?_
  obtain ⟨Mi, δ, R, h⟩ := h
  unfold rdVar at h
  split at h
  · rename_i d e
    obtain ⟨v, ev, r⟩ := R.cell i _ e
    exact ⟨v, ev, h v H (Go.refl R) r⟩
  · rename_i d e
    obtain ⟨v, ev, _⟩ := R.cell i _ e
    obtain ⟨g, q⟩ := Go.share R e
    exact ⟨v, ev, h v H g (q v ev)⟩
  · exact h.elim
theorem dp_var {i : Nat} {x : Str} {pos : Pos} (hN : X.N[i]? = some x) (hv : Vis X.env.scope x) (hd : (x == ("__debug__" : Str)) = false := by decide +kernel) (hcd : (x == ("__classdict__" : Str)) = false := by decide +kernel) : DP X W (.Name x pos) (pkVar i) := by
  refine PE.imp (pe_var hN hv hd hcd) fun σ H Q h => ?_
  obtain ⟨Mi, δ, R, h⟩ := h
  unfold pkVar at h
  split at h
  · rename_i d e
    unfold peek at e
    have hv : ∃ v, σ[i]? = some (some v) := by
      split at e
      · rename_i _ q
        obtain ⟨v, ev, _⟩ := R.cell i _ q
        exact ⟨v, ev⟩
      · rename_i _ q
        obtain ⟨v, ev, _⟩ := R.cell i _ q
        exact ⟨v, ev⟩
      · rename_i _ q
        obtain ⟨v, ev, _⟩ := R.cell i _ q
        exact ⟨v, ev⟩
      · cases e
    obtain ⟨v, ev⟩ := hv
    exact ⟨v, ev, h v H (Go.refl R) ev⟩
  · exact h.elim
theorem dp_of {e : Expr} {F : Fe D} (h : DE X W e F) : DP X W e fun δ => (F δ).bind fun d δ' => .ok (.tmp d) δ' := by
  refine PE.imp h fun σ H Q q => ?_
  obtain ⟨Mi, δ, R, q⟩ := q
  refine ⟨Mi, δ, R, ?_⟩
  dsimp only at q
  cases e : F δ with
  | ok a δ' =>
    rw [e] at q
    exact fun v H' g p => q v H' g p
  | err x δ' =>
    rw [e] at q
    exact q
  | bad =>
    rw [e] at q
    exact q
/-- an operand's datum -/
theorem opd_pk {K : PySem.W.Frag} {o : Opd} {d : D} {v : V} (hK : K = X.K) (R : Rep X.K Mi σ H δ) (p : pO X Mi o σ δ H v) (e : opd δ o = some d) : Pk X.K (msk Mi σ δ) H d v := by
  cases o with
  | tmp d' =>
    cases e
    exact .inl p
  | var i =>
    have e' : peek δ i = some d := e
    unfold peek at e'
    split at e'
    · rename_i _ q
      cases e'
      obtain ⟨u, eu, r⟩ := R.cell i _ q
      have p' : σ[i]? = some (some v) := p
      rw [eu] at p'
      cases p'
      exact .inl r
    · rename_i _ q
      cases e'
      obtain ⟨u, eu, a, rfl, _, r⟩ := R.cell i _ q
      have p' : σ[i]? = some (some v) := p
      rw [eu] at p'
      cases p'
      exact .inr ⟨a, rfl, r⟩
    · rename_i _ q
      cases e'
      obtain ⟨u, eu, a, rfl, _, r⟩ := R.cell i _ q
      have p' : σ[i]? = some (some v) := p
      rw [eu] at p'
      cases p'
      exact .inr ⟨a, rfl, r⟩
    · cases e'
def fC (d : D) : Fe D := fun δ => .ok d δ
theorem tG_pure {d : D} {v : V} {Q : VK} (hd : ∀ M H, Dat X.K M H d v) (h : tG X W (pD X) (fC d) σ H Q) : Q v H := by
  obtain ⟨Mi, δ, R, h⟩ := h
  exact h v H (Go.refl R) (hd _ _)
theorem de_int {i : Int} {j pos} : DE X W (.Constant (.int i) j pos) (fC (.int i)) := PE.imp pe_int fun σ H Q h => tG_pure (fun _ _ => by simp only [Dat]) h
theorem de_bl {b : Bool} {j pos} : DE X W (.Constant (.bool b) j pos) (fC (.bool b)) := PE.imp pe_bl fun σ H Q h => tG_pure (fun _ _ => by simp only [Dat]) h
theorem de_non {j pos} : DE X W (.Constant .none j pos) (fC .none) := PE.imp pe_non fun σ H Q h => tG_pure (fun _ _ => by simp only [Dat]) h
theorem de_str {x : Str} {j pos} : DE X W (.Constant (.str x) j pos) (fC (.str x)) := PE.imp pe_str fun σ H Q h => tG_pure (fun _ _ => by simp only [Dat]) h
/-! ### argument lists, displays -/
def fNil : Fe (List D) := fun δ => .ok [] δ
def fCons (F : Fe D) (G : Fe (List D)) : Fe (List D) := fun δ => (F δ).bind fun d δ1 => (G δ1).bind fun ds δ2 => .ok (d :: ds) δ2
theorem da_nil : DA X W [] fNil := PA.imp pa_nil fun σ H Q ⟨Mi, δ, R, h⟩ => h [] H (Go.refl R) .nil
theorem da_cons {e : Expr} {es : List Expr} {F : Fe D} {G : Fe (List D)} (h : DE X W e F) (t : DA X W es G) (hs : starEach (e :: es) X.env = (false, eval e X.env) :: starEach es X.env := by rfl) : DA X W (e :: es) (fCons F G) := by
  refine PA.imp (pa_cons h t hs) fun σ H Q q => ?_
  have q' := tG_bind2 (P := pD X) (P2 := pA X) (F2 := G) stays_D q
  obtain ⟨Mi, δ, R, q'⟩ := q'
  refine ⟨Mi, δ, R, q'.imp fun v H1 q1 => ?_⟩
  obtain ⟨Mi, δ, R, q1⟩ := q1
  refine ⟨Mi, δ, R, q1.imp fun u H2 ⟨Mi, a, b, δ2, R2, p1, p2, r⟩ => r (v :: u) H2 (Go.refl R2) (.cons p1 p2)⟩
def okLen (ds : List D) (d : D) : Option D := if ds.length ≤ 1000000 then some d else none
def fTup (F : Fe (List D)) : Fe D := fun δ => (F δ).bind fun ds δ1 => R.of (okLen ds (.tuple ds)) δ1
theorem of_okLen {ds : List D} {d : D} {δ : DEnv} {Q : VK} (h : RunG X W (pD X) Mi σ H δ (R.of (okLen ds d) δ) Q) : ds.length ≤ 1000000 ∧ RunG X W (pD X) Mi σ H δ (.ok d δ) Q := by
  unfold okLen at h
  split at h
  · rename_i hl
    exact ⟨hl, h⟩
  · exact h.elim
theorem lenLine {n : Nat} (h : n ≤ 1000000) : n ≤ sizeLine := by
  rw [sizeLine_eq]
  omega
theorem de_tup {es : List Expr} {F : Fe (List D)} {x1 pos} (h : DA X W es F) : DE X W (.Tuple es x1 pos) (fTup F) := by
  refine PE.imp (pe_tup h) fun σ H Q q => ?_
  obtain ⟨Mi, δ, R, q⟩ := tG_bind (P := pA X) q
  refine ⟨Mi, δ, R, q.imp fun vs H1 ⟨Mi, ds, δ1, R1, p, r⟩ => ?_⟩
  obtain ⟨hl, r⟩ := of_okLen r
  have p' : DatAll X.K (msk Mi σ δ1) H1 ds vs := p
  refine ⟨lenLine (by rw [p'.length]; exact hl), fun b nb => r _ _ (Go.al R1 (Al.new nb)) ?_⟩
  show Dat _ _ _ (.tuple ds) _
  simp only [Dat]
  exact ⟨b, vs, rfl, .inl ⟨fun z => R1.dom' z nb, .inl upd_same⟩, p'.mv (Al.new nb).mv⟩
/-- a new list, shared from the start -/
def fLst (F : Fe (List D)) : Fe D := fun δ => (F δ).bind fun ds δ1 => R.of (okLen ds (.list ds)) δ1
theorem de_lst {es : List Expr} {F : Fe (List D)} {pos} (h : DA X W es F) : DE X W (.List es pos) (fLst F) := by
  refine PE.imp (pe_lst h) fun σ H Q q => ?_
  obtain ⟨Mi, δ, R, q⟩ := tG_bind (P := pA X) q
  refine ⟨Mi, δ, R, q.imp fun vs H1 ⟨Mi, ds, δ1, R1, p, r⟩ => ?_⟩
  obtain ⟨hl, r⟩ := of_okLen r
  have p' : DatAll X.K (msk Mi σ δ1) H1 ds vs := p
  refine ⟨lenLine (by rw [p'.length]; exact hl), fun b nb => r _ _ (Go.al R1 (Al.new nb)) ?_⟩
  show Dat _ _ _ (.list ds) _
  simp only [Dat]
  exact ⟨b, vs, rfl, .inl ⟨fun z => R1.dom' z nb, .inl upd_same⟩, p'.mv (Al.new nb).mv⟩

/-! ### operations of two operands, given by what they do with data -/
/-- r, at any values that stand for da, db, tells what stands for f da db -/
def OpD (K : PySem.W.Frag) (r : R2) (f : D → D → Option D) : Prop :=
  ∀ (M : Msk) (H : Hp) (x y : V) (da db d : D) (Q : VK), (∀ a, M a → H a ≠ none) → Pk K M H da x → Pk K M H db y → f da db = some d → (∀ v H', Al H H' → Dat K M H' d v → Q v H') → r x y H Q
def fBin (f : D → D → Option D) (F G : Fe Opd) : Fe D := fun δ => (F δ).bind fun a δ1 => (G δ1).bind fun b δ2 => R.of ((opd δ2 a).bind fun da => (opd δ2 b).bind fun db => f da db) δ2
theorem of_bin {f : D → D → Option D} {a b : Opd} {x y : V} {Q : VK} {r : R2} (o : OpD X.K r f) (R : Rep X.K Mi σ H δ) (p1 : pO X Mi a σ δ H x) (p2 : pO X Mi b σ δ H y)
    (h : RunG X W (pD X) Mi σ H δ (Dl.R.of ((opd δ a).bind fun da => (opd δ b).bind fun db => f da db) δ) Q) : r x y H Q := by
  cases ea : opd δ a with
  | none =>
    rw [ea] at h
    exact h.elim
  | some da =>
    cases eb : opd δ b with
    | none =>
      rw [ea, eb] at h
      exact h.elim
    | some db =>
      rw [ea, eb] at h
      cases e : f da db with
      | none =>
        have h' : RunG X W (pD X) Mi σ H δ (Dl.R.of (f da db) δ) Q := h
        rw [e] at h'
        exact h'.elim
      | some d =>
        have h' : RunG X W (pD X) Mi σ H δ (Dl.R.of (f da db) δ) Q := h
        rw [e] at h'
        exact o _ H x y da db d Q (fun a z => R.dom' z) (opd_pk rfl R p1 ea) (opd_pk rfl R p2 eb) e fun v H' al dv => h' v H' (Go.al R al) dv
theorem bin_rd {f : D → D → Option D} {F G : Fe Opd} {r : R2} {Q : VK} (o : OpD X.K r f) (q : tG X W (pD X) (fBin f F G) σ H Q) :
    tG X W (pO X) F σ H fun x H1 => tG X W (pO X) G σ H1 fun y H2 => r x y H2 Q := by
  obtain ⟨Mi, δ, R, q⟩ := tG_bind2 (P := pO X) (P2 := pO X) (F2 := G) stays_O q
  refine ⟨Mi, δ, R, q.imp fun v H1 q1 => ?_⟩
  obtain ⟨Mi, δ, R, q1⟩ := q1
  exact ⟨Mi, δ, R, q1.imp fun u H2 ⟨Mi, a, b, δ2, R2, p1, p2, r⟩ => of_bin o R2 p1 p2 r⟩
theorem de_op {op : Operator} {r : R2} {f : D → D → Option D} {a b : Expr} {F G : Fe Opd} {pos} (ho : OpR X (binaryOp op) r) (o : OpD X.K r f) (ha : DP X W a F) (hb : DP X W b G) : DE X W (.BinOp a op b pos) (fBin f F G) :=
  PE.imp (pe_op ho ha hb) fun _ _ _ q => bin_rd o q
theorem de_cmp {op : CmpOp} {r : R2} {f : D → D → Option D} {a b : Expr} {F G : Fe Opd} {pos} (ho : OpR X (compareOp op) r) (o : OpD X.K r f) (ha : DP X W a F) (hb : DP X W b G) (hm : behindInMarks op b = false) : DE X W (.Compare a [op] [b] pos) (fBin f F G) :=
  PE.imp (pe_cmpR ho ha hb hm) fun _ _ _ q => bin_rd o q
theorem de_ix {r : R2} {f : D → D → Option D} {a b : Expr} {F G : Fe Opd} {pos} (ho : IxR X r) (o : OpD X.K r f) (ha : DP X W a F) (hb : DP X W b G) (hs : PlainIx b) : DE X W (.Subscript a b pos) (fBin f F G) :=
  PE.imp (pe_ix ho ha hb hs) fun _ _ _ q => bin_rd o q
end
end Dl

set_option Elab.async false
set_option linter.all false
set_option maxRecDepth 100000
namespace Dl
open PySem PySem.Spec PyProof.Rows L2
variable [TabC]

/-- what the frame's run may count on -/
structure Ok (X : Cx) (k : Nat) : Prop where
  room : Room k X.A
  gd : X.A.guards = some []
theorem Ok.hu {X : Cx} {k : Nat} (o : Ok X k) : X.A.units + 64 < cLine := o.room.units
theorem Ok.mono {X : Cx} {j k : Nat} (o : Ok X k) (h : j ≤ k) : Ok X j := ⟨o.room.mono h, o.gd⟩

/-- an operation by what it does with data -/
def rD (K : PySem.W.Frag) (f : D → D → Option D) : R2 := fun x y H Q =>
  ∃ (M : Msk) (da db d : D), (∀ a, M a → H a ≠ none) ∧ Pk K M H da x ∧ Pk K M H db y ∧ f da db = some d ∧ ∀ v H', Al H H' → Dat K M H' d v → Q v H'
theorem opD_rD {K : PySem.W.Frag} {f : D → D → Option D} : OpD K (rD K f) f := fun M H x y da db d Q hm px py e q => ⟨M, da, db, d, hm, px, py, e, q⟩

section
variable {K : PySem.W.Frag} {M : Msk} {H : Hp} {v : V}
theorem Pk.int {i : Int} (h : Pk K M H (.int i) v) : v = .int i := by
  rcases h with h | ⟨a, _, h⟩
  · simpa only [Dat] using h
  · exact h.elim
theorem Pk.str {i : Str} (h : Pk K M H (.str i) v) : v = .str i := by
  rcases h with h | ⟨a, _, h⟩
  · simpa only [Dat] using h
  · exact h.elim
theorem Pk.bool {i : Bool} (h : Pk K M H (.bool i) v) : v = .bl i := by
  rcases h with h | ⟨a, _, h⟩
  · simpa only [Dat] using h
  · exact h.elim
theorem Pk.none (h : Pk K M H .none v) : v = .non := by
  rcases h with h | ⟨a, _, h⟩
  · simpa only [Dat] using h
  · exact h.elim
theorem Pk.list {ds : List D} (h : Pk K M H (.list ds) v) : ∃ a xs, v = .ref a ∧ LsR K H a xs ∧ DatAll K M H ds xs := by
  rcases h with h | ⟨a, e, xs, h1, h2⟩
  · simp only [Dat] at h
    obtain ⟨a, xs, e, l, r⟩ := h
    exact ⟨a, xs, e, l.ls, r⟩
  · exact ⟨a, xs, e, .inl (.inl h1), h2⟩
theorem Pk.tuple {ds : List D} (h : Pk K M H (.tuple ds) v) : ∃ a xs, v = .ref a ∧ TupAt K M H a xs ∧ DatAll K M H ds xs := by
  rcases h with h | ⟨a, e, h⟩
  · simpa only [Dat] using h
  · exact h.elim
/-- no dict of tuple keys -/
def noT : List (D × D) → Bool
  | (.none, _) :: _ => false
  | _ => true
theorem datT_mark {ds : List (D × D)} {kt : List (List Key × V)} (h : DatT K M H ds kt) : ∃ r, ds = (.none, bigD) :: r ∧ DatKT K M H r kt := by
  cases ds with
  | nil => simp only [DatT] at h
  | cons p r =>
    obtain ⟨k, d⟩ := p
    simp only [DatT] at h
    obtain ⟨rfl, rfl, h⟩ := h
    exact ⟨r, rfl, h⟩
theorem datT_no {ds : List (D × D)} {kt : List (List Key × V)} (h : DatT K M H ds kt) : noT ds = false := by
  obtain ⟨r, rfl, _⟩ := datT_mark h
  rfl
theorem Pk.dict {ds : List (D × D)} (h : Pk K M H (.dict ds) v) (n : noT ds = true) : ∃ a kv, v = .ref a ∧ Rd H a (.dK kv) ∧ DatKV K M H ds kv := by
  rcases h with h | ⟨a, e, h⟩
  · simp only [Dat] at h
    rcases h with ⟨a, xs, e, l, r⟩ | ⟨a, xs, e, l, r⟩
    · exact ⟨a, xs, e, l.2, r⟩
    · rw [datT_no r] at n
      cases n
  · rcases h with ⟨xs, h1, h2⟩ | ⟨xs, h1, h2⟩
    · exact ⟨a, xs, e, .inl h1, h2⟩
    · rw [datT_no h2] at n
      cases n
theorem Pk.dictT {ds : List (D × D)} (h : Pk K M H (.dict ds) v) (n : noT ds = false) : ∃ a kt, v = .ref a ∧ H a = some (.dT kt) ∧ DatT K M H ds kt := by
  have key : ∀ {kv : List (Key × V)}, DatKV K M H ds kv → False := fun r => by
    cases ds with
    | nil => cases n
    | cons p r' =>
      obtain ⟨k, d⟩ := p
      simp only [DatKV] at r
      obtain ⟨j, v, r, e, ek, h1, h2⟩ := r
      subst ek
      cases j <;> cases n
  rcases h with h | ⟨a, e, h⟩
  · simp only [Dat] at h
    rcases h with ⟨a, xs, e, l, r⟩ | ⟨a, xs, e, l, r⟩
    · exact (key r).elim
    · exact ⟨a, xs, e, l.2, r⟩
  · rcases h with ⟨xs, h1, h2⟩ | ⟨xs, h1, h2⟩
    · exact (key h2).elim
    · exact ⟨a, xs, e, h1, h2⟩
theorem Pk.dictA {ds : List (D × D)} (h : Pk K M H (.dict ds) v) : ∃ a, v = .ref a := by
  cases e : noT ds with
  | true =>
    obtain ⟨a, _, q, _⟩ := h.dict e
    exact ⟨a, q⟩
  | false =>
    obtain ⟨a, _, q, _⟩ := h.dictT e
    exact ⟨a, q⟩
theorem Dat.mkInt {i : Int} : Dat K M H (.int i) (.int i) := by simp only [Dat]
theorem Dat.mkStr {i : Str} : Dat K M H (.str i) (.str i) := by simp only [Dat]
theorem Dat.mkBool {i : Bool} : Dat K M H (.bool i) (.bl i) := by simp only [Dat]
theorem Dat.mkNone : Dat K M H .none .non := by simp only [Dat]
theorem Dat.mkTup {a : Addr} {xs : List V} {ds : List D} (l : TupAt K M H a xs) (r : DatAll K M H ds xs) : Dat K M H (.tuple ds) (.ref a) := by
  simp only [Dat]
  exact ⟨a, xs, rfl, l, r⟩
/-- a new tuple, a new list -/
theorem Dat.newTup {p : Addr} {xs : List V} {ds : List D} (hm : ∀ a, M a → H a ≠ .none) (n : H p = .none) (r : DatAll K M H ds xs) : Dat K M (upd H p (.tup xs)) (.tuple ds) (.ref p) := by
  simp only [Dat]
  exact ⟨p, xs, rfl, .inl ⟨fun z => hm p z n, .inl upd_same⟩, r.mv (Al.new n).mv⟩
theorem Dat.newLst {p : Addr} {xs : List V} {ds : List D} (hm : ∀ a, M a → H a ≠ .none) (n : H p = .none) (r : DatAll K M H ds xs) : Dat K M (upd H p (.lst xs)) (.list ds) (.ref p) := by
  simp only [Dat]
  exact ⟨p, xs, rfl, .inl ⟨fun z => hm p z n, .inl upd_same⟩, r.mv (Al.new n).mv⟩
mutual
/-- a datum without dicts, in the layer's own words -/
theorem Dat.dp : ∀ {d : D} {v : V}, d.plain = true → Dat K M H d v → Dp K H v d
  | .none, _, _, h => by
    simp only [Dat] at h
    subst h
    exact .non
  | .bool b, _, _, h => by
    simp only [Dat] at h
    subst h
    exact .bl b
  | .int b, _, _, h => by
    simp only [Dat] at h
    subst h
    exact .int b
  | .str b, _, _, h => by
    simp only [Dat] at h
    subst h
    exact .str b
  | .list ds, _, p, h => by
    simp only [Dat] at h
    obtain ⟨a, xs, rfl, l, r⟩ := h
    exact .lst l.sq (DatAll.dp (by simpa only [PyData.plain] using p) r)
  | .tuple ds, _, p, h => by
    simp only [Dat] at h
    obtain ⟨a, xs, rfl, l, r⟩ := h
    exact .tup l.sq (DatAll.dp (by simpa only [PyData.plain] using p) r)
  | .dict _, _, p, _ => by
    simp only [PyData.plain] at p
    cases p
theorem DatAll.dp : ∀ {ds : List D} {vs : List V}, PyData.plainAll ds = true → DatAll K M H ds vs → DpAll K H vs ds
  | [], _, _, h => by
    rw [h.nil_inv]
    exact .nil
  | d :: ds, _, p, h => by
    obtain ⟨v, r, rfl, h1, h2⟩ := h.cons_inv
    simp only [PyData.plainAll, Bool.and_eq_true] at p
    exact .cons (Dat.dp p.1 h1) (DatAll.dp p.2 h2)
end
theorem Pk.dp {d : D} (p : d.plain = true) (h : Pk K M H d v) : Dp K H v d := by
  rcases h with h | ⟨a, rfl, h⟩
  · exact h.dp p
  · cases d with
    | list ds =>
      obtain ⟨xs, e, r⟩ := h
      exact .lst (.inl (.inl e)) (r.dp (by simpa only [PyData.plain] using p))
    | dict ds =>
      simp only [PyData.plain] at p
      cases p
    | none => exact h.elim
    | bool _ => exact h.elim
    | int _ => exact h.elim
    | str _ => exact h.elim
    | tuple _ => exact h.elim
end
section
variable {X : Cx}
theorem Pk.reads {M : Msk} {pins : List (Addr × Obj)} {σ : St} {H : Hp} {s : Shared} {d : D} {v : V} {u : Value} (I : Inv X pins σ H s) (p : d.plain = true) (h : Pk X.K M H d v) (r : RelV v u) : ∃ as, Reads s.heap u d as :=
  Dp.reads I d v u (h.dp p) r

/-! ### arithmetic -/
def addF : D → D → Option D
  | .int a, .int b => some (.int (a + b))
  | .str a, .str b => if a.length + b.length ≤ 1000000 then some (.str (a ++ b)) else none
  | .list a, .list b => if a.length + b.length ≤ 1000000 then some (.list (a ++ b)) else none
  | .tuple a, .tuple b => if a.length + b.length ≤ 1000000 then some (.tuple (a ++ b)) else none
  | _, _ => none
theorem rd_list {pins : List (Addr × Obj)} {s : Shared} {σ : St} {H : Hp} {l : Addr} {xs : List V} (I : Inv X pins σ H s) (hH : LsR X.K H l xs) :
    xs.length ≤ sizeLine ∧ ∃ (its : List Value) (n : Nat), Vals xs its ∧ xs.length = its.length ∧ s.heap.get? l = some { cls := .type "list", data := .seq its.toArray n } := by
  rcases hH with hH | ⟨its, n, e, z, r⟩
  · obtain ⟨z, its, n, r, e⟩ := hH.ok I.hok
    exact ⟨z, its, n, r, r.length, e⟩
  · exact ⟨z, its, n, r, r.length, I.kIn l _ e⟩
theorem op_catL {pins : List (Addr × Obj)} {s : Shared} {σ : St} {H : Hp} {l b : Addr} {xs zs : List V} {Q : VK} (I : Inv X pins σ H s) (hH : LsR X.K H l xs) (hB : LsR X.K H b zs) (hz : xs.length + zs.length ≤ sizeLine)
    (q : ∀ p, H p = none → Q (.ref p) (upd H p (.lst (xs ++ zs)))) : wpAny (model X.prog X.w) X.A (binaryOp .Add (.ref l) (.ref b)) (EP X pins σ Q) X.xe s := by
  obtain ⟨z, its, n, r, hl, e⟩ := rd_list I hH
  obtain ⟨z2, its2, n2, r2, hl2, e2⟩ := rd_list I hB
  refine PySem.P.add_list e e2 ?_ (by rw [List.size_toArray, List.size_toArray]; omega)
  rw [show its.toArray ++ its2.toArray = (its ++ its2).toArray by simp]
  exact ⟨.ref _, _, I.lnew (t' := s.toks) (r.append r2) (by rw [List.length_append]; omega), rfl, q _ I.fresh⟩
theorem some_if {α : Type} {c : Prop} [Decidable c] {x d : α} (h : (if c then some x else none) = some d) : c ∧ x = d := by
  split at h
  · rename_i hc
    exact ⟨hc, Option.some.inj h⟩
  · cases h
theorem op_addD : OpR X (binaryOp .Add) (rD X.K addF) := by
  intro pins s σ H x y v u Q I rx ry ⟨M, da, db, d, hm, px, py, e, q⟩
  unfold addF at e
  split at e
  · cases e
    exact op_add pins s σ H x y v u Q I rx ry ⟨_, _, px.int, py.int, q _ H Al.refl .mkInt⟩
  · obtain ⟨hl, e⟩ := some_if e
    subst e
    exact op_add_str pins s σ H x y v u Q I rx ry ⟨_, _, px.str, py.str, lenLine hl, q _ H Al.refl .mkStr⟩
  · obtain ⟨hl, e⟩ := some_if e
    subst e
    obtain ⟨a, xs, rfl, l, r⟩ := px.list
    obtain ⟨b, ys, rfl, l2, r2⟩ := py.list
    cases rx
    cases ry
    refine op_catL I l l2 (by rw [r.length, r2.length]; exact lenLine hl) fun p n => q _ _ (Al.new n) (.newLst hm n (r.append r2))
  · obtain ⟨hl, e⟩ := some_if e
    subst e
    obtain ⟨a, xs, rfl, l, r⟩ := px.tuple
    obtain ⟨b, ys, rfl, l2, r2⟩ := py.tuple
    have c := r.append r2
    refine op_catA pins s σ H _ _ v u Q I rx ry ⟨a, b, xs, ys, rfl, rfl, l.sq, l2.sq, by rw [r.length, r2.length]; exact lenLine hl, fun e => ?_, fun _ e => ?_, fun _ _ p n => q _ _ (Al.new n) (.newTup hm n c)⟩
    · refine q _ H Al.refl (.mkTup l2 ?_)
      rw [e] at c
      exact c
    · refine q _ H Al.refl (.mkTup l ?_)
      rw [e, List.append_nil] at c
      exact c
  · cases e
def subF : D → D → Option D
  | .int a, .int b => some (.int (a - b))
  | _, _ => none
theorem op_subD : OpR X (binaryOp .Sub) (rD X.K subF) := by
  intro pins s σ H x y v u Q I rx ry ⟨M, da, db, d, hm, px, py, e, q⟩
  unfold subF at e
  split at e
  · cases e
    exact op_sub pins s σ H x y v u Q I rx ry ⟨_, _, px.int, py.int, q _ H Al.refl .mkInt⟩
  · cases e
/-- numbers of together less than a million bits -/
def mulF : D → D → Option D
  | .int a, .int b => if ((-(2 ^ 64) < a ∧ a < 2 ^ 64) ∨ (-(2 ^ 64) < b ∧ b < 2 ^ 64)) ∨ a.natAbs.log2 + b.natAbs.log2 < 1000000 then some (.int (a * b)) else none
  | _, _ => none
theorem op_mulD : OpR X (binaryOp .Mult) (rD X.K mulF) := by
  intro pins s σ H x y v u Q I rx ry ⟨M, da, db, d, hm, px, py, e, q⟩
  unfold mulF at e
  split at e
  · obtain ⟨hl, e⟩ := some_if e
    subst e
    rcases hl with hl | hl
    · exact op_mul pins s σ H x y v u Q I rx ry ⟨_, _, px.int, py.int, hl, q _ H Al.refl .mkInt⟩
    · exact op_mulW pins s σ H x y v u Q I rx ry ⟨_, _, px.int, py.int, hl, q _ H Al.refl .mkInt⟩
  · cases e
def divF : D → D → Option D
  | .int a, .int b => if 0 < b ∧ b.natAbs.log2 < 9000 then some (.int (a / b)) else none
  | _, _ => none
theorem op_divD : OpR X (binaryOp .FloorDiv) (rD X.K divF) := by
  intro pins s σ H x y v u Q I rx ry ⟨M, da, db, d, hm, px, py, e, q⟩
  unfold divF at e
  split at e
  · obtain ⟨hl, e⟩ := some_if e
    subst e
    exact op_fdivW pins s σ H x y v u Q I rx ry ⟨_, _, px.int, py.int, hl, q _ H Al.refl .mkInt⟩
  · cases e
def modF : D → D → Option D
  | .int a, .int b => if 0 < b then some (.int (a % b)) else none
  | _, _ => none
theorem op_modD : OpR X (binaryOp .Mod) (rD X.K modF) := by
  intro pins s σ H x y v u Q I rx ry ⟨M, da, db, d, hm, px, py, e, q⟩
  unfold modF at e
  split at e
  · obtain ⟨hl, e⟩ := some_if e
    subst e
    exact op_mod pins s σ H x y v u Q I rx ry ⟨_, _, px.int, py.int, hl, q _ H Al.refl .mkInt⟩
  · cases e
def powF : D → D → Option D
  | .int a, .int b => if 0 ≤ b ∧ b ≤ 1000 ∧ a.natAbs < 2 ^ 64 then some (.int (a ^ b.toNat)) else none
  | _, _ => none
theorem op_powD : OpR X (binaryOp .Pow) (rD X.K powF) := by
  intro pins s σ H x y v u Q I rx ry ⟨M, da, db, d, hm, px, py, e, q⟩
  unfold powF at e
  split at e
  · obtain ⟨hl, e⟩ := some_if e
    subst e
    exact op_pow pins s σ H x y v u Q I rx ry ⟨_, _, px.int, py.int, ⟨hl.1, Int.le_trans hl.2.1 (by decide), hl.2.2⟩, q _ H Al.refl .mkInt⟩
  · cases e

/-! ### comparisons -/
def okEq (a b : D) : Bool := a.plain && b.plain && decide (min a.depth b.depth ≤ 60)
def eqF (a b : D) : Option D := if okEq a b = true then some (.bool (PyData.eqv a b)) else none
def neF (a b : D) : Option D := if okEq a b = true then some (.bool (!PyData.eqv a b)) else none
theorem okEq_un {a b : D} (h : okEq a b = true) : a.plain = true ∧ b.plain = true ∧ min a.depth b.depth ≤ 60 := by
  unfold okEq at h
  simp only [Bool.and_eq_true, decide_eq_true_eq] at h
  exact ⟨h.1.1, h.1.2, h.2⟩
theorem op_eqA (hu : X.A.units + 64 < cLine) : OpR X (compareOp .Eq) (rD X.K eqF) := by
  intro pins s σ H x y v u Q I rx ry ⟨M, da, db, d, hm, px, py, e, q⟩
  obtain ⟨hl, e⟩ := some_if e
  subst e
  obtain ⟨pa, pb, hd⟩ := okEq_un hl
  obtain ⟨as, r1⟩ := px.reads I pa rx
  obtain ⟨bs, r2⟩ := py.reads I pb ry
  exact PySem.SeqAt.eq_plain r1 r2 pa pb (by omega) ⟨.bl _, H, I, rfl, q _ H Al.refl .mkBool⟩
theorem op_neA (hu : X.A.units + 64 < cLine) : OpR X (compareOp .NotEq) (rD X.K neF) := by
  intro pins s σ H x y v u Q I rx ry ⟨M, da, db, d, hm, px, py, e, q⟩
  obtain ⟨hl, e⟩ := some_if e
  subst e
  obtain ⟨pa, pb, hd⟩ := okEq_un hl
  obtain ⟨as, r1⟩ := px.reads I pa rx
  obtain ⟨bs, r2⟩ := py.reads I pb ry
  exact PySem.SeqAt.ne_plain r1 r2 pa pb (by omega) ⟨.bl _, H, I, rfl, q _ H Al.refl .mkBool⟩
/-- two data that can be compared place by place -/
def okLt (a b : D) : Bool := a.plain && b.plain && PySem.W.alike a b && decide (min a.depth b.depth ≤ 60) && (match a with | .none => false | _ => true)
theorem okLt_un {a b : D} (h : okLt a b = true) : a.plain = true ∧ b.plain = true ∧ PySem.W.alike a b = true ∧ min a.depth b.depth ≤ 60 ∧ a ≠ .none := by
  unfold okLt at h
  simp only [Bool.and_eq_true, decide_eq_true_eq] at h
  refine ⟨h.1.1.1.1, h.1.1.1.2, h.1.1.2, h.1.2, fun e => ?_⟩
  subst e
  exact absurd h.2 (by simp)
def ltF (a b : D) : Option D := if okLt a b = true then some (.bool (PySem.W.dataLt a b)) else none
def gtF (a b : D) : Option D := if okLt a b = true then some (.bool (PySem.W.dataLt b a)) else none
def leF (a b : D) : Option D := if okLt a b = true then some (.bool (!PySem.W.dataLt b a)) else none
def geF (a b : D) : Option D := if okLt a b = true then some (.bool (!PySem.W.dataLt a b)) else none
theorem op_ltA (hu : X.A.units + 64 < cLine) : OpR X (compareOp .Lt) (rD X.K ltF) := by
  intro pins s σ H x y v u Q I rx ry ⟨M, da, db, d, hm, px, py, e, q⟩
  obtain ⟨hl, e⟩ := some_if e
  subst e
  obtain ⟨pa, pb, al, hd, nn⟩ := okLt_un hl
  obtain ⟨as, r1⟩ := px.reads I pa rx
  obtain ⟨bs, r2⟩ := py.reads I pb ry
  exact PySem.W.lt_data r1 r2 al nn (by omega) ⟨.bl _, H, I, rfl, q _ H Al.refl .mkBool⟩
theorem op_gtA (hu : X.A.units + 64 < cLine) : OpR X (compareOp .Gt) (rD X.K gtF) := by
  intro pins s σ H x y v u Q I rx ry ⟨M, da, db, d, hm, px, py, e, q⟩
  obtain ⟨hl, e⟩ := some_if e
  subst e
  obtain ⟨pa, pb, al, hd, nn⟩ := okLt_un hl
  obtain ⟨as, r1⟩ := px.reads I pa rx
  obtain ⟨bs, r2⟩ := py.reads I pb ry
  exact PySem.W.gt_data r1 r2 al nn (by omega) ⟨.bl _, H, I, rfl, q _ H Al.refl .mkBool⟩
theorem op_geA (hu : X.A.units + 64 < cLine) : OpR X (compareOp .GtE) (rD X.K geF) := by
  intro pins s σ H x y v u Q I rx ry ⟨M, da, db, d, hm, px, py, e, q⟩
  obtain ⟨hl, e⟩ := some_if e
  subst e
  obtain ⟨pa, pb, al, hd, nn⟩ := okLt_un hl
  obtain ⟨as, r1⟩ := px.reads I pa rx
  obtain ⟨bs, r2⟩ := py.reads I pb ry
  exact PySem.W.ge_data r1 r2 al nn (by omega) ⟨.bl _, H, I, rfl, q _ H Al.refl .mkBool⟩
/-- x in c: a list, a tuple; a text in a text; a key in a dict -/
def hasF : D → D → Option Bool
  | x, .list ds => if x.plain = true ∧ PyData.plainAll ds = true ∧ x.depth ≤ 60 then some (ds.any fun y => PyData.eqv y x) else none
  | x, .tuple ds => if x.plain = true ∧ PyData.plainAll ds = true ∧ x.depth ≤ 60 then some (ds.any fun y => PyData.eqv y x) else none
  | .str x, .str y => some (!(Builtin.Str.occurrences y x 0 y.length 1).isEmpty)
  | _, _ => none
def inF (x c : D) : Option D := (hasF x c).map .bool
def niF (x c : D) : Option D := (hasF x c).map fun b => .bool (!b)
theorem op_inA (hu : X.A.units + 64 < cLine) : OpR X (compareOp .In) (rD X.K inF) := by
  intro pins s σ H x y v u Q I rx ry ⟨M, da, db, d, hm, px, py, e, q⟩
  obtain ⟨b, eb, rfl⟩ := Option.map_eq_some_iff.mp e
  unfold hasF at eb
  split at eb
  · rename_i ds
    obtain ⟨⟨p1, p2, hd⟩, rfl⟩ := some_if eb
    obtain ⟨as, r1⟩ := px.reads I p1 rx
    obtain ⟨bs, r2⟩ := py.reads I (d := .list ds) (by simpa only [PyData.plain] using p2) ry
    exact PySem.SeqAt.in_list_data r2 r1 p2 p1 (by omega) ⟨.bl _, H, I, rfl, q _ H Al.refl .mkBool⟩
  · rename_i ds
    obtain ⟨⟨p1, p2, hd⟩, rfl⟩ := some_if eb
    obtain ⟨as, r1⟩ := px.reads I p1 rx
    obtain ⟨bs, r2⟩ := py.reads I (d := .tuple ds) (by simpa only [PyData.plain] using p2) ry
    exact PySem.SeqAt.in_tuple_data r2 r1 p2 p1 (by omega) ⟨.bl _, H, I, rfl, q _ H Al.refl .mkBool⟩
  · cases eb
    exact op_in_str pins s σ H x y v u Q I rx ry ⟨_, _, px.str, py.str, q _ H Al.refl .mkBool⟩
  · cases eb
theorem op_niA (hu : X.A.units + 64 < cLine) : OpR X (compareOp .NotIn) (rD X.K niF) := by
  intro pins s σ H x y v u Q I rx ry ⟨M, da, db, d, hm, px, py, e, q⟩
  obtain ⟨b, eb, rfl⟩ := Option.map_eq_some_iff.mp e
  unfold hasF at eb
  split at eb
  · rename_i ds
    obtain ⟨⟨p1, p2, hd⟩, rfl⟩ := some_if eb
    obtain ⟨as, r1⟩ := px.reads I p1 rx
    obtain ⟨bs, r2⟩ := py.reads I (d := .list ds) (by simpa only [PyData.plain] using p2) ry
    exact PySem.SeqAt.notIn_list_data r2 r1 p2 p1 (by omega) ⟨.bl _, H, I, rfl, q _ H Al.refl .mkBool⟩
  · rename_i ds
    obtain ⟨⟨p1, p2, hd⟩, rfl⟩ := some_if eb
    obtain ⟨as, r1⟩ := px.reads I p1 rx
    obtain ⟨bs, r2⟩ := py.reads I (d := .tuple ds) (by simpa only [PyData.plain] using p2) ry
    exact PySem.SeqAt.notIn_tuple_data r2 r1 p2 p1 (by omega) ⟨.bl _, H, I, rfl, q _ H Al.refl .mkBool⟩
  · cases eb
    exact op_notin_str pins s σ H x y v u Q I rx ry ⟨_, _, px.str, py.str, q _ H Al.refl .mkBool⟩
  · cases eb
/-- x is None -/
def isNoneD : D → Bool
  | .none => true
  | _ => false
def isF (x y : D) : Option D := if isNoneD y = true then some (.bool (isNoneD x)) else none
def isnF (x y : D) : Option D := if isNoneD y = true then some (.bool (!isNoneD x)) else none
theorem pk_non {K : PySem.W.Frag} {M : Msk} {H : Hp} {d : D} {v : V} (h : Pk K M H d v) : decide (v = .non) = isNoneD d := by
  cases d with
  | none => rw [h.none]; rfl
  | bool b => rw [h.bool]; rfl
  | int b => rw [h.int]; rfl
  | str b => rw [h.str]; rfl
  | list b => obtain ⟨a, _, rfl, _⟩ := h.list; rfl
  | tuple b => obtain ⟨a, _, rfl, _⟩ := h.tuple; rfl
  | dict b => obtain ⟨a, rfl⟩ := h.dictA; rfl
theorem isNone_eq {d : D} (h : isNoneD d = true) : d = .none := by
  cases d <;> first | rfl | cases h
theorem op_isD : OpR X (compareOp .Is) (rD X.K isF) := by
  intro pins s σ H x y v u Q I rx ry ⟨M, da, db, d, hm, px, py, e, q⟩
  obtain ⟨hl, e⟩ := some_if e
  subst e
  have hn := isNone_eq hl
  subst hn
  refine op_isN pins s σ H x y v u Q I rx ry ⟨py.none, q _ H Al.refl ?_⟩
  rw [pk_non px]
  exact .mkBool
/-! ### an item by its place -/
def itF : D → D → Option D
  | .list ds, .int i => atI ds i
  | .tuple ds, .int i => atI ds i
  | .str z, .int i => if z.length ≤ 1000000 then (atI z.cps.toList i).map fun c => .str ⟨#[c]⟩ else none
  | _, _ => none
theorem DatAll.atI {K : PySem.W.Frag} {M : Msk} {H : Hp} {ds : List D} {xs : List V} {i : Int} {d : D} (r : DatAll K M H ds xs) (e : L2.atI ds i = some d) : ∃ v, L2.atI xs i = some v ∧ Dat K M H d v := by
  unfold L2.atI at e ⊢
  rw [r.length]
  cases h : ixN ds.length i with
  | none =>
    rw [h] at e
    cases e
  | some j =>
    rw [h] at e
    exact r.get e
theorem ix_D : IxR X (rD X.K itF) := by
  intro value slice pins s σ H x y v u Q I rx ry ⟨M, da, db, d, hm, px, py, e, q⟩ hs
  unfold itF at e
  split at e
  · obtain ⟨a, xs, rfl, l, r⟩ := px.list
    obtain ⟨w, ew, dw⟩ := r.atI e
    exact ix_list value slice pins s σ H _ y v u Q I rx ry ⟨a, xs, _, w, rfl, py.int, l.sq, ew, q _ H Al.refl dw⟩ hs
  · obtain ⟨a, xs, rfl, l, r⟩ := px.tuple
    obtain ⟨w, ew, dw⟩ := r.atI e
    exact ix_tup value slice pins s σ H _ y v u Q I rx ry ⟨a, xs, _, w, rfl, py.int, l.sq, ew, q _ H Al.refl dw⟩ hs
  · split at e
    · rename_i hl
      obtain ⟨c, ec, rfl⟩ := Option.map_eq_some_iff.mp e
      exact ix_str value slice pins s σ H x y v u Q I rx ry ⟨_, _, c, px.str, py.int, lenLine hl, ec, q _ H Al.refl .mkStr⟩ hs
    · cases e
  · cases e
end
end Dl

set_option Elab.async false
set_option linter.all false
set_option maxRecDepth 100000
namespace Dl
open PySem PySem.Spec PyProof.Rows L2
variable [Reg] [TabC]
section
variable {X : Cx} {W : WX} {Mi : Msk} {σ : St} {H H1 : Hp} {δ δ1 : DEnv}

/-! ### tests -/
def toB : D → DEnv → R Bool
  | .bool b, δ => .ok b δ
  | _, _ => .bad
def fB (F : Fe D) : Fe Bool := fun δ => (F δ).bind toB
theorem dt_of {e : Expr} {F : Fe D} {t : TT} (h : ∀ te, PE X e te → PT X e (tB te)) (he : DE X W e F) : DT X W e (fB F) := by
  refine PT.imp (h _ he) fun σ H Q q => ?_
  obtain ⟨Mi, δ, R, q⟩ := tG_bind (P := pD X) q
  refine ⟨Mi, δ, R, q.imp fun v H1 ⟨Mi, d, δ1, R1, p, r⟩ => ?_⟩
  have p' : Dat X.K (msk Mi σ δ1) H1 d v := p
  cases d with
  | bool b =>
    simp only [Dat] at p'
    exact ⟨b, p', r b H1 (Go.refl R1) rfl⟩
  | none => exact False.elim r
  | int _ => exact False.elim r
  | str _ => exact False.elim r
  | list _ => exact False.elim r
  | tuple _ => exact False.elim r
  | dict _ => exact False.elim r
theorem dt_val {e : Expr} {F : Fe D} (h : DE X W e F) (he : ∀ whole, isTrue e X.env whole = (do let v ← whole; standAt e.pos; holding [v] (truthy v)) := by intro _; rfl) : DT X W e (fB F) :=
  dt_of (t := tB (tG X W (pD X) F)) (fun te hp => pt_val hp he) h
theorem bin_rdB {f : D → D → Option D} {F G : Fe Opd} {r : R2} {Q : Bool → Hp → Prop} (o : OpD X.K r f) (q : tG X W pB (fB (fBin f F G)) σ H Q) :
    tG X W (pO X) F σ H fun x H1 => tG X W (pO X) G σ H1 fun y H2 => r x y H2 fun z H3 => ∃ k, z = .bl k ∧ Q k H3 := by
  have q' := tG_bind (P := pD X) q
  refine bin_rd o ?_
  obtain ⟨Mi, δ, R, q'⟩ := q'
  refine ⟨Mi, δ, R, q'.imp fun v H1 ⟨Mi, d, δ1, R1, p, r⟩ => ?_⟩
  have p' : Dat X.K (msk Mi σ δ1) H1 d v := p
  cases d with
  | bool b =>
    simp only [Dat] at p'
    exact ⟨b, p', r b H1 (Go.refl R1) rfl⟩
  | none => exact False.elim r
  | int _ => exact False.elim r
  | str _ => exact False.elim r
  | list _ => exact False.elim r
  | tuple _ => exact False.elim r
  | dict _ => exact False.elim r
theorem dt_cmp {op : CmpOp} {f : D → D → Option D} {a b : Expr} {F G : Fe Opd} {pos} (ho : OpR X (compareOp op) (rD X.K f)) (ha : DP X W a F) (hb : DP X W b G) (hm : behindInMarks op b = false) : DT X W (.Compare a [op] [b] pos) (fB (fBin f F G)) :=
  PT.imp (pt_cmpR ho ha hb hm) fun _ _ _ q => bin_rdB opD_rD q
/-- a op b op' c -/
def fChain (f g : D → D → Option D) (F G J : Fe Opd) : Fe D := fun δ => (F δ).bind fun a δ1 => (G δ1).bind fun b δ2 =>
  (R.of ((opd δ2 a).bind fun da => (opd δ2 b).bind fun db => f da db) δ2).bind fun d δ3 => (toB d δ3).bind fun k δ4 =>
    if k = true then (J δ4).bind fun c δ5 => R.of ((opd δ5 b).bind fun db => (opd δ5 c).bind fun dc => g db dc) δ5 else .ok (.bool false) δ4
theorem R.bind_assoc {α β γ : Type} (r : R α) (f : α → DEnv → R β) (g : β → DEnv → R γ) : (r.bind f).bind g = r.bind fun a δ => (f a δ).bind g := by
  cases r <;> rfl
def DW (X : Cx) (W : WX) (e : Expr) (F : Fe Bool) : Prop := PW X e (tG X W pB F)
theorem PW.imp {e : Expr} {t t' : TT} (h : PW X e t) (i : ∀ σ H Q, t' σ H Q → t σ H Q) : PW X e t' := ⟨fun wh pins s σ H Q I q => h.run wh pins s σ H Q I (i σ H Q q)⟩
def fAnd (F G : Fe Bool) : Fe Bool := fun δ => (F δ).bind fun b δ1 => if b = true then G δ1 else .ok false δ1
def fOr (F G : Fe Bool) : Fe Bool := fun δ => (F δ).bind fun b δ1 => if b = true then .ok true δ1 else G δ1
def fNot (F : Fe Bool) : Fe Bool := fun δ => (F δ).bind fun b δ1 => .ok (!b) δ1
variable {a b : Expr} {rest : List Expr} {F G : Fe Bool} {pos : Pos}
theorem dt_w (h : DW X W a F) : DT X W a F := L2.PW.pt h
theorem dw_and1 (ha : DT X W a F) : DW X W (.BoolOp .And [a] pos) F := pw_and1 ha
theorem dw_or1 (ha : DT X W a F) : DW X W (.BoolOp .Or [a] pos) F := pw_or1 ha
theorem dw_and (ha : DT X W a F) (hb : DW X W (.BoolOp .And (b :: rest) pos) G) : DW X W (.BoolOp .And (a :: b :: rest) pos) (fAnd F G) := by
  refine PW.imp (pw_and ha hb) fun σ H Q q => ?_
  obtain ⟨Mi, δ, R, q⟩ := tG_bind (P := pB) q
  refine ⟨Mi, δ, R, q.imp fun c H1 ⟨Mi, k, δ1, R1, p, r⟩ => ?_⟩
  have e : c = k := p
  subst e
  cases c with
  | true => exact iteT ⟨Mi, δ1, R1, r⟩
  | false => exact iteF (r _ _ (Go.refl R1) rfl)
theorem dw_or (ha : DT X W a F) (hb : DW X W (.BoolOp .Or (b :: rest) pos) G) : DW X W (.BoolOp .Or (a :: b :: rest) pos) (fOr F G) := by
  refine PW.imp (pw_or ha hb) fun σ H Q q => ?_
  obtain ⟨Mi, δ, R, q⟩ := tG_bind (P := pB) q
  refine ⟨Mi, δ, R, q.imp fun c H1 ⟨Mi, k, δ1, R1, p, r⟩ => ?_⟩
  have e : c = k := p
  subst e
  cases c with
  | true => exact iteT (r _ _ (Go.refl R1) rfl)
  | false => exact iteF ⟨Mi, δ1, R1, r⟩
theorem dt_not (ha : DT X W a F) : DT X W (.UnaryOp .Not a pos) (fNot F) := by
  refine PT.imp (pt_not ha) fun σ H Q q => ?_
  obtain ⟨Mi, δ, R, q⟩ := tG_bind (P := pB) q
  refine ⟨Mi, δ, R, q.imp fun c H1 ⟨Mi, k, δ1, R1, p, r⟩ => ?_⟩
  have e : c = k := p
  subst e
  exact r _ _ (Go.refl R1) rfl
/-! .. as values, where all but the last are truths -/
def fAndV (F G : Fe D) : Fe D := fun δ => (F δ).bind fun d δ1 => (toB d δ1).bind fun b δ2 => if b = true then G δ2 else .ok (.bool false) δ2
def fOrV (F G : Fe D) : Fe D := fun δ => (F δ).bind fun d δ1 => (toB d δ1).bind fun b δ2 => if b = true then .ok (.bool true) δ2 else G δ2
def fNotV (F : Fe D) : Fe D := fun δ => (F δ).bind fun d δ1 => (toB d δ1).bind fun b δ2 => .ok (.bool (!b)) δ2
variable {Fv Gv : Fe D}
theorem de_one {op} (h : DE X W a Fv) : DE X W (.BoolOp op [a] pos) Fv := pe_one h
theorem de_and (ha : DE X W a Fv) (hb : DE X W (.BoolOp .And (b :: rest) pos) Gv) : DE X W (.BoolOp .And (a :: b :: rest) pos) (fAndV Fv Gv) := by
  refine PE.imp (pe_and ha hb) fun σ H Q q => ?_
  obtain ⟨Mi, δ, R, q⟩ := tG_bind (P := pD X) q
  refine ⟨Mi, δ, R, q.imp fun c H1 ⟨Mi, d, δ1, R1, p, r⟩ => ?_⟩
  have p' : Dat X.K (msk Mi σ δ1) H1 d c := p
  cases d with
  | bool k =>
    simp only [Dat] at p'
    refine ⟨k, p', ?_⟩
    cases k with
    | true => exact iteT ⟨Mi, δ1, R1, r⟩
    | false => exact iteF (r _ _ (Go.refl R1) Dat.mkBool)
  | none => exact False.elim r
  | int _ => exact False.elim r
  | str _ => exact False.elim r
  | list _ => exact False.elim r
  | tuple _ => exact False.elim r
  | dict _ => exact False.elim r
def fIf (T : Fe Bool) (F G : Fe D) : Fe D := fun δ => (T δ).bind fun b δ1 => if b = true then F δ1 else G δ1
def negF : D → Option D
  | .int a => some (.int (-a))
  | _ => none
def fUn (f : D → Option D) (F : Fe Opd) : Fe D := fun δ => (F δ).bind fun a δ1 => R.of ((opd δ1 a).bind f) δ1
theorem de_neg {Fp : Fe Opd} (ha : DP X W a Fp) : DE X W (.UnaryOp .USub a pos) (fUn negF Fp) := by
  refine PE.imp (pe_un un_neg ha) fun σ H Q q => ?_
  obtain ⟨Mi, δ, R, q⟩ := tG_bind (P := pO X) q
  refine ⟨Mi, δ, R, q.imp fun c H1 ⟨Mi, o, δ1, R1, p, r⟩ => ?_⟩
  cases eo : opd δ1 o with
  | none =>
    rw [eo] at r
    exact False.elim r
  | some d =>
    rw [eo] at r
    have pk := opd_pk rfl R1 p eo
    cases d with
    | int i => exact ⟨i, pk.int, r _ _ (Go.refl R1) Dat.mkInt⟩
    | bool _ => exact False.elim r
    | none => exact False.elim r
    | str _ => exact False.elim r
    | list _ => exact False.elim r
    | tuple _ => exact False.elim r
    | dict _ => exact False.elim r

/-! ### built-ins called with operands -/
def pL (X : Cx) : Rl (List Opd) (List V) := fun Mi os σ δ H vs => os.length = vs.length ∧ ∀ (i : Nat) (o : Opd) (v : V), os[i]? = some o → vs[i]? = some v → pO X Mi o σ δ H v
def DL (X : Cx) (W : WX) (es : List Expr) (F : Fe (List Opd)) : Prop := PA X es (tG X W (pL X) F)
def lNil : Fe (List Opd) := fun δ => .ok [] δ
def lCons (F : Fe Opd) (G : Fe (List Opd)) : Fe (List Opd) := fun δ => (F δ).bind fun d δ1 => (G δ1).bind fun ds δ2 => .ok (d :: ds) δ2
theorem dl_nil : DL X W [] lNil := PA.imp pa_nil fun σ H Q ⟨Mi, δ, R, h⟩ => h [] H (Go.refl R) ⟨rfl, fun i o v e => by simp at e⟩
theorem dl_cons {e : Expr} {es : List Expr} {F : Fe Opd} {G : Fe (List Opd)} (h : DP X W e F) (t : DL X W es G) (hs : starEach (e :: es) X.env = (false, eval e X.env) :: starEach es X.env := by rfl) : DL X W (e :: es) (lCons F G) := by
  refine PA.imp (pa_cons h t hs) fun σ H Q q => ?_
  have q' := tG_bind2 (P := pO X) (P2 := pL X) (F2 := G) stays_O q
  obtain ⟨Mi, δ, R, q'⟩ := q'
  refine ⟨Mi, δ, R, q'.imp fun v H1 q1 => ?_⟩
  obtain ⟨Mi, δ, R, q1⟩ := q1
  refine ⟨Mi, δ, R, q1.imp fun u H2 ⟨Mi, a, b, δ2, R2, p1, p2, r⟩ => r (v :: u) H2 (Go.refl R2) ⟨by rw [List.length_cons, List.length_cons, p2.1], fun i o w e1 e2 => ?_⟩⟩
  match i, e1, e2 with
  | 0, e1, e2 =>
    have h1 : a = o := Option.some.inj e1
    have h2 : v = w := Option.some.inj e2
    rw [← h1, ← h2]
    exact p1
  | i + 1, e1, e2 => exact p2.2 i o w (by simpa using e1) (by simpa using e2)
def opds (δ : DEnv) : List Opd → Option (List D)
  | [] => some []
  | o :: os => (opd δ o).bind fun d => (opds δ os).map (d :: ·)
inductive PkAll (K : PySem.W.Frag) (M : Msk) (H : Hp) : List D → List V → Prop
  | nil : PkAll K M H [] []
  | cons {d : D} {v : V} {ds : List D} {vs : List V} : Pk K M H d v → PkAll K M H ds vs → PkAll K M H (d :: ds) (v :: vs)
theorem opds_pk (R : Rep X.K Mi σ H δ) : ∀ {os : List Opd} {ds : List D} {vs : List V}, pL X Mi os σ δ H vs → opds δ os = some ds → PkAll X.K (msk Mi σ δ) H ds vs
  | [], _, vs, ⟨hl, _⟩, e => by
    cases e
    cases vs with
    | nil => exact .nil
    | cons _ _ => simp at hl
  | o :: os, ds, vs, ⟨hl, p⟩, e => by
    cases vs with
    | nil => simp at hl
    | cons v vs =>
      unfold opds at e
      cases eo : opd δ o with
      | none =>
        rw [eo] at e
        cases e
      | some d =>
        rw [eo] at e
        obtain ⟨es, e1, rfl⟩ := Option.map_eq_some_iff.mp e
        exact .cons (opd_pk rfl R (p 0 o v rfl rfl) eo) (opds_pk R ⟨by simpa using hl, fun i a b h1 h2 => p (i + 1) a b (by simpa using h1) (by simpa using h2)⟩ e1)
/-- a built-in by what it does with data -/
def rC (K : PySem.W.Frag) (f : List D → Option D) : List V → Hp → VK → Prop := fun xs H Q =>
  ∃ (M : Msk) (ds : List D) (d : D), (∀ a, M a → H a ≠ none) ∧ PkAll K M H ds xs ∧ f ds = some d ∧ ∀ v H', Al H H' → Dat K M H' d v → Q v H'
def fCall (f : List D → Option D) (F : Fe (List Opd)) : Fe D := fun δ => (F δ).bind fun os δ1 => R.of ((opds δ1 os).bind f) δ1
theorem of_call {f : List D → Option D} {os : List Opd} {xs : List V} {Q : VK} (Rp : Rep X.K Mi σ H δ) (p : pL X Mi os σ δ H xs) (h : RunG X W (pD X) Mi σ H δ (R.of ((opds δ os).bind f) δ) Q) : rC X.K f xs H Q := by
  cases e : opds δ os with
  | none =>
    rw [e] at h
    exact h.elim
  | some ds =>
    rw [e] at h
    have h' : RunG X W (pD X) Mi σ H δ (R.of (f ds) δ) Q := h
    cases e2 : f ds with
    | none =>
      rw [e2] at h'
      exact h'.elim
    | some d =>
      rw [e2] at h'
      exact ⟨_, ds, d, fun a z => Rp.dom' z, opds_pk Rp p e, e2, fun v H' al dv => h' v H' (Go.al Rp al) dv⟩
theorem call_rd {f : List D → Option D} {F : Fe (List Opd)} {Q : VK} (q : tG X W (pD X) (fCall f F) σ H Q) : tCB (rC X.K f) (tG X W (pL X) F) σ H Q := by
  obtain ⟨Mi, δ, R, q⟩ := tG_bind (P := pL X) q
  exact ⟨Mi, δ, R, q.imp fun xs H1 ⟨Mi, os, δ1, R1, p, r⟩ => of_call R1 p r⟩
theorem de_callB {x : Str} {p pos : Pos} {e : Expr} {es : List Expr} {id : String} {f : List D → Option D} {F : Fe (List Opd)} (hc : CallR X (.builtin id) (rC X.K f)) (hg : Gl X x) (hm : X.mg x = none) (hv : bootBuiltins x = some (.builtin id)) (ha : DL X W (e :: es) F)
    (hn : x ≠ "__name__" := by decide +kernel) (hdb : (x == ("__debug__" : Str)) = false := by decide +kernel) (he : starEach (e :: es) X.env = (false, eval e X.env) :: starEach es X.env := by rfl) (hpl : (backTo pos (starEach es X.env)).any (·.1) = false := by rfl) :
    DE X W (.Call (.Name x p) (e :: es) [] pos) (fCall f F) := PE.imp (pe_callB hc hg hm hv ha hn hdb he hpl) fun _ _ _ q => call_rd q
theorem de_callTy {x : Str} {p pos : Pos} {e : Expr} {es : List Expr} {T : String} {f : List D → Option D} {F : Fe (List Opd)} (hc : CallR X (.type T) (rC X.K f)) (hg : Gl X x) (hm : X.mg x = none) (hv : bootBuiltins x = some (.type T)) (ha : DL X W (e :: es) F)
    (hn : x ≠ "__name__" := by decide +kernel) (hdb : (x == ("__debug__" : Str)) = false := by decide +kernel) (he : starEach (e :: es) X.env = (false, eval e X.env) :: starEach es X.env := by rfl) (hpl : (backTo pos (starEach es X.env)).any (·.1) = false := by rfl) :
    DE X W (.Call (.Name x p) (e :: es) [] pos) (fCall f F) := PE.imp (pe_callTy hc hg hm hv ha hn hdb he hpl) fun _ _ _ q => call_rd q
theorem PkAll.one {K : PySem.W.Frag} {M : Msk} {H : Hp} {ds : List D} {v : V} {vs : List V} {d : D} (h : PkAll K M H [d] vs) : ∃ v, vs = [v] ∧ Pk K M H d v := by
  cases h with
  | cons h t => cases t; exact ⟨_, rfl, h⟩
theorem PkAll.two {K : PySem.W.Frag} {M : Msk} {H : Hp} {vs : List V} {d e : D} (h : PkAll K M H [d, e] vs) : ∃ v u, vs = [v, u] ∧ Pk K M H d v ∧ Pk K M H e u := by
  cases h with
  | cons h t => cases t with
    | cons h2 t2 => cases t2; exact ⟨_, _, rfl, h, h2⟩
def lenF : List D → Option D
  | [.list ds] => some (.int ds.length)
  | [.tuple ds] => some (.int ds.length)
  | [.str s] => if s.length ≤ 1000000 then some (.int s.length) else none
  | _ => none
theorem call_lenD : CallR X (.builtin "len") (rC X.K lenF) := by
  intro pins s σ H xs us Q I r ⟨M, ds, d, hm, ps, e, q⟩
  unfold lenF at e
  split at e
  · cases e
    obtain ⟨v, rfl, p⟩ := PkAll.one (ds := []) (v := .non) ps
    obtain ⟨a, ys, rfl, l, rr⟩ := p.list
    exact call_len_seq pins s σ H _ us Q I r ⟨a, ys, rfl, .inl l.sq, q _ H Al.refl (by rw [rr.length]; exact .mkInt)⟩
  · cases e
    obtain ⟨v, rfl, p⟩ := PkAll.one (ds := []) (v := .non) ps
    obtain ⟨a, ys, rfl, l, rr⟩ := p.tuple
    exact call_len_seq pins s σ H _ us Q I r ⟨a, ys, rfl, .inr l.sq, q _ H Al.refl (by rw [rr.length]; exact .mkInt)⟩
  · obtain ⟨hl, e⟩ := some_if e
    subst e
    obtain ⟨v, rfl, p⟩ := PkAll.one (ds := []) (v := .non) ps
    exact call_len_str pins s σ H _ us Q I r ⟨_, by rw [p.str], lenLine hl, q _ H Al.refl .mkInt⟩
  · cases e
def absF : List D → Option D
  | [.int i] => some (.int (if i < 0 then -i else i))
  | _ => none
theorem call_absD : CallR X (.builtin "abs") (rC X.K absF) := by
  intro pins s σ H xs us Q I r ⟨M, ds, d, hm, ps, e, q⟩
  unfold absF at e
  split at e
  · cases e
    obtain ⟨v, rfl, p⟩ := PkAll.one (ds := []) (v := .non) ps
    exact call_abs pins s σ H _ us Q I r ⟨_, by rw [p.int], q _ H Al.refl .mkInt⟩
  · cases e
def intF : List D → Option D
  | [.int i] => some (.int i)
  | [.bool k] => some (.int (if k then 1 else 0))
  | [.str a] => if a.length ≤ 640 then (PySem.intText? a).map .int else none
  | _ => none
theorem call_intD : CallR X (.type "int") (rC X.K intF) := by
  intro pins s σ H xs us Q I r ⟨M, ds, d, hm, ps, e, q⟩
  unfold intF at e
  split at e
  · cases e
    obtain ⟨v, rfl, p⟩ := PkAll.one (ds := []) (v := .non) ps
    exact call_int1 pins s σ H _ us Q I r (.inl ⟨_, by rw [p.int], q _ H Al.refl .mkInt⟩)
  · cases e
    obtain ⟨v, rfl, p⟩ := PkAll.one (ds := []) (v := .non) ps
    exact call_int1 pins s σ H _ us Q I r (.inr ⟨_, by rw [p.bool], q _ H Al.refl .mkInt⟩)
  · split at e
    · rename_i hl
      obtain ⟨n, en, rfl⟩ := Option.map_eq_some_iff.mp e
      obtain ⟨v, rfl, p⟩ := PkAll.one (ds := []) (v := .non) ps
      exact call_int_str pins s σ H _ us Q I r ⟨_, n, by rw [p.str], en, hl, q _ H Al.refl .mkInt⟩
    · cases e
  · cases e
/-- list(x), tuple(x), as new things that are shared from the start -/
def listF : List D → Option D
  | [.list ds] => some (.list ds)
  | [.tuple ds] => some (.list ds)
  | _ => none
def tupleF : List D → Option D
  | [.list ds] => some (.tuple ds)
  | [.tuple ds] => some (.tuple ds)
  | _ => none
theorem call_tupleD : CallR X (.type "tuple") (rC X.K tupleF) := by
  intro pins s σ H xs us Q I r ⟨M, ds, d, hm, ps, e, q⟩
  unfold tupleF at e
  split at e
  · cases e
    obtain ⟨v, rfl, p⟩ := PkAll.one (ds := []) (v := .non) ps
    obtain ⟨a, ys, rfl, l, rr⟩ := p.list
    exact call_tuple_of pins s σ H _ us Q I r ⟨a, ys, rfl, .inl ⟨l.sq, fun l n => q _ _ (Al.new n) (.newTup hm n rr)⟩⟩
  · cases e
    obtain ⟨v, rfl, p⟩ := PkAll.one (ds := []) (v := .non) ps
    obtain ⟨a, ys, rfl, l, rr⟩ := p.tuple
    exact call_tuple_of pins s σ H _ us Q I r ⟨a, ys, rfl, .inr ⟨l.sq, q _ H Al.refl (.mkTup l rr)⟩⟩
  · cases e
/-! isinstance(x, T) -/
def tyN : D → String
  | .none => "NoneType"
  | .bool _ => "bool"
  | .int _ => "int"
  | .str _ => "str"
  | .list _ => "list"
  | .tuple _ => "tuple"
  | .dict _ => "dict"
def isiT (t T : String) : Bool := t == T || (t == "bool" && T == "int")
def isiB (T : String) (d : D) : Bool := isiT (tyN d) T
theorem pk_ty {M : Msk} {H : Hp} {d : D} {v : V} (h : Pk X.K M H d v) : TyX X.K H v (.type (tyN d)) := by
  cases d with
  | none => rw [h.none]; exact .base .non
  | bool b => rw [h.bool]; exact .base (.bl b)
  | int b => rw [h.int]; exact .base (.int b)
  | str b => rw [h.str]; exact .base (.str b)
  | list b =>
    obtain ⟨a, xs, rfl, (l | ⟨o, l⟩) | ⟨_, _, e, _⟩, _⟩ := h.list
    · exact .base (.lst l)
    · exact .base (.frz l)
    · exact .kList e rfl
  | tuple b =>
    obtain ⟨a, xs, rfl, ⟨_, l | ⟨o, l⟩⟩ | l, _⟩ := h.tuple
    · exact .base (.tup l)
    · exact .fTuple l
    · rcases l (fun _ => Option.none) with (z | ⟨_, z⟩) | ⟨o, _, _, e, c, _⟩
      · cases z
      · cases z
      · exact .kTuple e c
  | dict b =>
    cases e : noT b with
    | true =>
      obtain ⟨a, kv, rfl, l | ⟨o, l⟩, _⟩ := h.dict e
      · exact .base (.dK l)
      · exact .fDict l
    | false =>
      obtain ⟨a, kv, rfl, l, _⟩ := h.dictT e
      exact .base (.dT l)
def fIsi (T : String) (F : Fe Opd) : Fe D := fun δ => (F δ).bind fun o δ1 => R.of ((opd δ1 o).map fun d => .bool (isiB T d)) δ1
/-- T is one of the built-in classes that we ask for -/
def Kits (K : PySem.W.Frag) (T : String) : Prop := ∀ d : D, PySem.W.kitOne K (.type (tyN d)) (.type T) = some (isiB T d)
theorem de_isi {T : String} {x : Str} {p p2 pos : Pos} {e : Expr} {F : Fe Opd} (hk : Kits X.K T) (hg : Gl X "isinstance") (hm : X.mg "isinstance" = none) (hgT : Gl X x) (hmT : X.mg x = none) (hvT : bootBuiltins x = some (.type T)) (ha : DP X W e F)
    (hv : bootBuiltins "isinstance" = some (.builtin "isinstance") := by decide +kernel) (hn2 : x ≠ "__name__" := by decide +kernel) (hdb2 : (x == ("__debug__" : Str)) = false := by decide +kernel)
    (hn : ("isinstance" : Str) ≠ "__name__" := by decide +kernel) (hdb : (("isinstance" : Str) == ("__debug__" : Str)) = false := by decide +kernel)
    (he : starEach [e, .Name x p2] X.env = (false, eval e X.env) :: starEach [.Name x p2] X.env := by rfl) (hpl : (backTo pos (starEach [.Name x p2] X.env)).any (·.1) = false := by rfl) :
    DE X W (.Call (.Name "isinstance" p) [e, .Name x p2] [] pos) (fIsi T F) := by
  refine PE.imp (pe_callB call_isi hg hm hv (pa_cons ha (pa_cons (pe_bltn (v := .ty T) hgT hmT hvT rfl hn2 hdb2) pa_nil) he) hn hdb he hpl) fun σ H Q q => ?_
  obtain ⟨Mi, δ, R, q⟩ := tG_bind (P := pO X) q
  refine ⟨Mi, δ, R, q.imp fun v H1 ⟨Mi, o, δ1, R1, p1, r⟩ => ?_⟩
  cases eo : opd δ1 o with
  | none =>
    rw [eo] at r
    exact False.elim r
  | some d =>
    rw [eo] at r
    have pk := opd_pk rfl R1 p1 eo
    exact ⟨v, .ty T, _, _, _, rfl, .ty T, pk_ty pk, hk d, r _ _ (Go.refl R1) .mkBool⟩
theorem kits_list (K : PySem.W.Frag) : Kits K "list" := fun d => by
  cases d
  · exact kit_ty (show kitB "NoneType" "list" = some (isiT "NoneType" "list") by decide +kernel)
  · exact kit_ty (show kitB "bool" "list" = some (isiT "bool" "list") by decide +kernel)
  · exact kit_ty (show kitB "int" "list" = some (isiT "int" "list") by decide +kernel)
  · exact kit_ty (show kitB "str" "list" = some (isiT "str" "list") by decide +kernel)
  · exact kit_ty (show kitB "list" "list" = some (isiT "list" "list") by decide +kernel)
  · exact kit_ty (show kitB "tuple" "list" = some (isiT "tuple" "list") by decide +kernel)
  · exact kit_ty (show kitB "dict" "list" = some (isiT "dict" "list") by decide +kernel)
theorem kits_tuple (K : PySem.W.Frag) : Kits K "tuple" := fun d => by
  cases d
  · exact kit_ty (show kitB "NoneType" "tuple" = some (isiT "NoneType" "tuple") by decide +kernel)
  · exact kit_ty (show kitB "bool" "tuple" = some (isiT "bool" "tuple") by decide +kernel)
  · exact kit_ty (show kitB "int" "tuple" = some (isiT "int" "tuple") by decide +kernel)
  · exact kit_ty (show kitB "str" "tuple" = some (isiT "str" "tuple") by decide +kernel)
  · exact kit_ty (show kitB "list" "tuple" = some (isiT "list" "tuple") by decide +kernel)
  · exact kit_ty (show kitB "tuple" "tuple" = some (isiT "tuple" "tuple") by decide +kernel)
  · exact kit_ty (show kitB "dict" "tuple" = some (isiT "dict" "tuple") by decide +kernel)
theorem kits_dict (K : PySem.W.Frag) : Kits K "dict" := fun d => by
  cases d
  · exact kit_ty (show kitB "NoneType" "dict" = some (isiT "NoneType" "dict") by decide +kernel)
  · exact kit_ty (show kitB "bool" "dict" = some (isiT "bool" "dict") by decide +kernel)
  · exact kit_ty (show kitB "int" "dict" = some (isiT "int" "dict") by decide +kernel)
  · exact kit_ty (show kitB "str" "dict" = some (isiT "str" "dict") by decide +kernel)
  · exact kit_ty (show kitB "list" "dict" = some (isiT "list" "dict") by decide +kernel)
  · exact kit_ty (show kitB "tuple" "dict" = some (isiT "tuple" "dict") by decide +kernel)
  · exact kit_ty (show kitB "dict" "dict" = some (isiT "dict" "dict") by decide +kernel)
end
end Dl

set_option Elab.async false
set_option linter.all false
set_option maxRecDepth 100000
namespace Dl
open PySem PySem.Spec PyProof.Rows L2
variable [Reg] [TabC]

def plus (Mi : Msk) (a : Addr) : Msk := fun b => Mi b ∨ b = a
section
variable {K : PySem.W.Frag} {Mi Mo : Msk} {σ σ' σ2 : St} {H H' H2 : Hp} {δ δ' δ2 : DEnv}

/-! ### new containers, out of everybody's sight -/
theorem Mv.shrink {M M' : Msk} (h : ∀ a, M' a → M a) : Mv M H M' H := fun a o n e _ => ⟨fun z => n (h a z), e⟩
theorem trk_upd {p : Addr} {o : HO} : ∀ a, upd H p o a = none → H a = none := fun a h => by
  by_cases e : a = p
  · subst e
    rw [upd_same] at h
    cases h
  · rw [upd_ne e] at h
    exact h
/-- the cells, under other bounds -/
theorem CellR.mv {Mi Mi' M M' : Msk} {v : V} {c : Cell} (m : Mv M H M' H') (h1 : ∀ a o, c.isMut = true → v = .ref a → H a = some o → ¬ Mi a → ¬ Mi' a) (h2 : ∀ a, c.isMut = true → Mi a → v = .ref a → Mi' a) (hk : ∀ a, c.isMut = true → v = .ref a → H' a = H a) (h : CellR K Mi M H v c) : CellR K Mi' M' H' v c := by
  cases c with
  | val d => exact Dat.mv m h
  | own d =>
    obtain ⟨a, e, n, q⟩ := h
    obtain ⟨o, eo⟩ := q.some
    exact ⟨a, e, h1 a o rfl e eo n, q.mv m (hk a rfl e)⟩
  | ref d =>
    obtain ⟨a, e, n, q⟩ := h
    exact ⟨a, e, h2 a rfl n e, q.mv m (hk a rfl e)⟩
  | exc a dd x => exact ExcR.mv m h
theorem Go.new (R : Rep K Mi σ H δ) {p : Addr} {o : HO} (n : H p = none) : Go K Mi (plus Mi p) σ H δ σ (upd H p o) δ := by
  have m : Mv (msk Mi σ δ) H (msk (plus Mi p) σ δ) (upd H p o) := fun a u q e _ => ⟨fun z => by
    rcases z with (z | z) | z
    · exact q (.inl z)
    · subst z
      rw [n] at e
      cases e
    · exact q (.inr z), Al.new n a u e⟩
  refine ⟨⟨R.len, fun i c e => ?_, R.sep, fun a z => ?_, R.pin, R.tab.ext (Al.new n)⟩, fun a u _ _ e _ => Al.new n a u e, fun _ h => .inl h, fun _ h => ⟨rfl, h⟩, fun _ h => h, trk_upd⟩
  · obtain ⟨v, e1, r⟩ := R.cell i c e
    refine ⟨v, e1, r.mv m (fun a u _ _ eu z y => y.elim z fun w => ?_) (fun a _ z _ => .inl z) fun a hm ev => ?_⟩
    · subst w
      rw [n] at eu
      cases eu
    · refine upd_ne fun w => ?_
      subst w
      cases c with
      | val d => cases hm
      | own d =>
        obtain ⟨b, e, _, q⟩ := r
        rw [ev] at e
        cases e
        obtain ⟨u, eu⟩ := q.some
        rw [n] at eu
        cases eu
      | ref d =>
        obtain ⟨b, e, _, q⟩ := r
        rw [ev] at e
        cases e
        obtain ⟨u, eu⟩ := q.some
        rw [n] at eu
        cases eu
      | exc _ _ _ => cases hm
  · rcases z with z | z
    · intro q
      exact R.dom a z (trk_upd a q)
    · subst z
      rw [upd_same]
      exact Option.some_ne_none _
/-- a new container is given up -/
theorem Go.drop (R : Rep K Mi σ H δ) {p : Addr} (g : Go K Mi (plus Mi p) σ H δ σ' H' δ') (n : H p = none) : Go K Mi Mi σ H δ σ' H' δ' := by
  have m : Mv (msk (plus Mi p) σ' δ') H' (msk Mi σ' δ') H' := Mv.shrink fun a z => z.elim (fun z => .inl (.inl z)) .inr
  refine ⟨⟨g.rep.len, fun i c e => ?_, g.rep.sep, fun a z => g.rep.dom a (.inl z), g.rep.pin, g.rep.tab⟩, g.stab, g.own, g.lent, g.lentB, g.trk⟩
  obtain ⟨v, e1, r⟩ := g.rep.cell i c e
  refine ⟨v, e1, r.mv m (fun a u _ _ _ z y => z (.inl y)) (fun a hm z ev => ?_) fun _ _ _ => rfl⟩
  subst ev
  cases c with
  | val d => cases hm
  | own d =>
    obtain ⟨b, eb, nb, _⟩ := r
    cases eb
    exact absurd z nb
  | ref d => exact R.lent_in (Lent.of g ⟨i, d, e, e1⟩)
  | exc _ _ _ => cases hm
theorem Go.given (R : Rep K Mi σ H δ) {p : Addr} {d : D} (g : Go K Mi (plus Mi p) σ H δ σ' H' δ') (n : H p = none) (c : Cont K (msk (plus Mi p) σ' δ') H' p d) : Dat K (msk Mi σ' δ') H' d (.ref p) := by
  have m : Mv (msk (plus Mi p) σ' δ') H' (msk Mi σ' δ') H' := Mv.shrink fun a z => z.elim (fun z => .inl (.inl z)) .inr
  refine (c.mv m rfl).dat fun z => ?_
  rcases z with z | z
  · exact R.dom p z n
  · exact g.rep.own_out z (.inr rfl)

/-! ### stores to a slot -/
theorem get_set_some {α : Type} {l : List α} {i j : Nat} {x y : α} (h : (l.set i x)[j]? = some y) : (j = i ∧ y = x ∧ i < l.length) ∨ (j ≠ i ∧ l[j]? = some y) := by
  by_cases e : i = j
  · subst e
    rw [List.getElem?_set] at h
    simp only [if_true] at h
    split at h
    · rename_i hl
      exact .inl ⟨rfl, (Option.some.inj h).symm, hl⟩
    · cases h
  · rw [List.getElem?_set_ne e] at h
    exact .inr ⟨fun z => e z.symm, h⟩
theorem pin_set {j i : Nat} {u v : V} {c : Cell} (h : σ[j]? = some (some u) ∧ isRef δ[j]? = true) (nr : isRef δ[i]? = false) : (σ.set i (some v))[j]? = some (some u) ∧ isRef (δ.set i (some c))[j]? = true := by
  have n : i ≠ j := fun z => by
    subst z
    rw [h.2] at nr
    cases nr
  rw [List.getElem?_set_ne n, List.getElem?_set_ne n]
  exact h
theorem Go.store (R : Rep K Mi σ H δ) {i : Nat} {v : V} {d : D} (hi : i < δ.length) (nr : isRef δ[i]? = false) (dv : Dat K (msk Mi σ δ) H d v) :
    Go K Mi Mi σ H δ (σ.set i (some v)) H (δ.set i (some (.val d))) := by
  have own_ : ∀ b, Owned (σ.set i (some v)) (δ.set i (some (.val d))) b → Owned σ δ b := fun b ⟨j, d', e1, e2⟩ => by
    rcases get_set_some e1 with ⟨_, z, _⟩ | ⟨ne, z⟩
    · cases z
    · rw [List.getElem?_set_ne (Ne.symm ne)] at e2
      exact ⟨j, d', z, e2⟩
  have m : Mv (msk Mi σ δ) H (msk Mi (σ.set i (some v)) (δ.set i (some (.val d)))) H := Mv.shrink fun a z => z.elim .inl fun z => .inr (own_ a z)
  refine ⟨⟨by rw [List.length_set, List.length_set]; exact R.len, fun j c e => ?_, fun j k c c' b ne e1 e2 m1 m2 s1 s2 => ?_, R.dom, fun p hp => pin_set (R.pin p hp) nr, R.tab⟩, fun _ _ _ _ e _ => e, fun a h => .inl (own_ a h), fun j h => ?_, fun j ⟨d', e⟩ => ?_, fun _ h => h⟩
  · rcases get_set_some e with ⟨rfl, z, _⟩ | ⟨ne, z⟩
    · cases z
      refine ⟨v, ?_, Dat.mv m dv⟩
      rw [List.getElem?_set_self (Nat.lt_of_lt_of_le hi R.len)]
    · obtain ⟨u, eu, r⟩ := R.cell j c z
      refine ⟨u, ?_, r.mv m (fun _ _ _ _ _ z => z) (fun _ _ z _ => z) fun _ _ _ => rfl⟩
      rw [List.getElem?_set_ne (Ne.symm ne)]
      exact eu
  · rcases get_set_some e1 with ⟨_, z, _⟩ | ⟨ne1, z1⟩
    · cases z
      cases m1
    · rcases get_set_some e2 with ⟨_, z, _⟩ | ⟨ne2, z2⟩
      · cases z
        cases m2
      · rw [List.getElem?_set_ne (Ne.symm ne1)] at s1
        rw [List.getElem?_set_ne (Ne.symm ne2)] at s2
        exact R.sep j k c c' b ne z1 z2 m1 m2 s1 s2
  · obtain ⟨d', e⟩ := h
    have ne : i ≠ j := fun z => by
      subst z
      rw [e] at nr
      cases nr
    rw [List.getElem?_set_ne ne, List.getElem?_set_ne ne]
    exact ⟨rfl, d', e⟩
  · rcases get_set_some e with ⟨_, z, _⟩ | ⟨_, z⟩
    · cases z
    · exact ⟨d', z⟩
theorem Go.storeOwn (R : Rep K Mi σ H δ) {i : Nat} {p : Addr} {d : D} (g : Go K Mi (plus Mi p) σ H δ σ H' δ') (n : H p = none) (c : Cont K (msk (plus Mi p) σ δ') H' p d) (hi : i < δ'.length) (nr : isRef δ'[i]? = false) :
    Go K Mi Mi σ H δ (σ.set i (some (.ref p))) H' (δ'.set i (some (.own d))) := by
  have hiσ : i < σ.length := Nat.lt_of_lt_of_le hi g.rep.len
  have own_ : ∀ b, Owned (σ.set i (some (.ref p))) (δ'.set i (some (.own d))) b → Owned σ δ' b ∨ b = p := fun b ⟨j, d', e1, e2⟩ => by
    rcases get_set_some e1 with ⟨rfl, z, _⟩ | ⟨ne, z⟩
    · rw [List.getElem?_set_self hiσ] at e2
      cases e2
      exact .inr rfl
    · rw [List.getElem?_set_ne (Ne.symm ne)] at e2
      exact .inl ⟨j, d', z, e2⟩
  have m : Mv (msk (plus Mi p) σ δ') H' (msk Mi (σ.set i (some (.ref p))) (δ'.set i (some (.own d)))) H' := Mv.shrink fun a z => by
    rcases z with z | z
    · exact .inl (.inl z)
    · rcases own_ a z with z | z
      · exact .inr z
      · exact .inl (.inr z)
  have np : ¬ Mi p := fun z => R.dom p z n
  have other : ∀ j c, j ≠ i → δ'[j]? = some (some c) → c.isMut = true → σ[j]? ≠ some (some (.ref p)) := fun j c ne e hm s => by
    obtain ⟨u, eu, r⟩ := g.rep.cell j c e
    rw [s] at eu
    cases eu
    cases c with
    | val d => cases hm
    | own d =>
      obtain ⟨b, eb, nb, _⟩ := r
      cases eb
      exact nb (.inr rfl)
    | ref d => exact np (R.lent_in (Lent.of g ⟨j, d, e, s⟩))
    | exc _ _ _ => cases hm
  refine ⟨⟨by rw [List.length_set, List.length_set]; exact g.rep.len, fun j c' e => ?_, fun j k c1 c2 b ne e1 e2 m1 m2 s1 s2 => ?_, fun a z => g.rep.dom a (.inl z), fun p hp => pin_set (g.rep.pin p hp) nr, g.rep.tab⟩, g.stab, fun a h => ?_, fun j h => ?_, fun j ⟨d', e⟩ => ?_, g.trk⟩
  · rcases get_set_some e with ⟨rfl, z, _⟩ | ⟨ne, z⟩
    · cases z
      refine ⟨.ref p, List.getElem?_set_self hiσ, p, rfl, np, c.mv m rfl⟩
    · obtain ⟨u, eu, r⟩ := g.rep.cell j c' z
      refine ⟨u, ?_, r.mv m (fun _ _ _ _ _ z y => z (.inl y)) (fun a hm z ev => ?_) fun _ _ _ => rfl⟩
      · rw [List.getElem?_set_ne (Ne.symm ne)]
        exact eu
      · subst ev
        exact z.elim id fun w => absurd (w ▸ eu) (other j c' ne ‹_› hm)
  · rcases get_set_some e1 with ⟨rfl, z, _⟩ | ⟨ne1, z1⟩
    · rw [List.getElem?_set_self hiσ] at s1
      cases s1
      rcases get_set_some e2 with ⟨z, _, _⟩ | ⟨ne2, z2⟩
      · exact ne z.symm
      · rw [List.getElem?_set_ne (Ne.symm ne2)] at s2
        exact other k c2 ne2 z2 m2 s2
    · rw [List.getElem?_set_ne (Ne.symm ne1)] at s1
      rcases get_set_some e2 with ⟨rfl, z, _⟩ | ⟨ne2, z2⟩
      · rw [List.getElem?_set_self hiσ] at s2
        cases s2
        exact other j c1 ne1 z1 m1 s1
      · rw [List.getElem?_set_ne (Ne.symm ne2)] at s2
        exact g.rep.sep j k c1 c2 b ne z1 z2 m1 m2 s1 s2
  · rcases own_ a h with z | z
    · exact g.own a z
    · subst z
      exact .inr n
  · obtain ⟨q, d', e⟩ := g.lent j h
    have ne : i ≠ j := fun z => by
      subst z
      rw [e] at nr
      cases nr
    rw [List.getElem?_set_ne ne, List.getElem?_set_ne ne]
    exact ⟨rfl, d', e⟩
  · rcases get_set_some e with ⟨_, z, _⟩ | ⟨_, z⟩
    · cases z
    · exact g.lentB j ⟨d', z⟩
def upCell : Cell → D → Cell
  | .own _, d => .own d
  | _, d => .ref d
theorem pin_up {i j : Nat} {d d' : D} {c : Cell} (h : isRef δ[j]? = true) (e : δ[i]? = some (some c)) (hc : (c = .own d) ∨ (c = .ref d)) : isRef (δ.set i (some (upCell c d')))[j]? = true := by
  by_cases z : i = j
  · subst z
    rw [e] at h
    rw [List.getElem?_set_self (List.getElem?_eq_some_iff.mp e).1]
    rcases hc with y | y
    · subst y
      cases h
    · subst y
      rfl
  · rw [List.getElem?_set_ne z]
    exact h
/-- a container is neither a table nor a code object -/
theorem TabsN.upd {T : List NdefX.NTab} {p : Addr} {o : HO} (h : NdefX.TabsN T H) (n : ∃ u, H p = some u ∧ ((∃ xs, u = .lst xs) ∨ (∃ kv, u = .dK kv) ∨ ∃ kt, u = .dT kt)) : NdefX.TabsN T (upd H p o) := fun q hq => by
  obtain ⟨ps, h1, h2, h3⟩ := h q hq
  obtain ⟨u, e, hu⟩ := n
  have far : ∀ {a : Addr} {w : HO}, H a = some w → (∀ xs, w ≠ .lst xs) → (∀ kv, w ≠ .dK kv) → (∀ kv, w ≠ .dT kv) → a ≠ p := fun {a w} ea n1 n2 n3 z => by
    subst z
    rw [e] at ea
    cases ea
    rcases hu with ⟨xs, z⟩ | ⟨kv, z⟩ | ⟨kv, z⟩
    · exact n1 xs z
    · exact n2 kv z
    · exact n3 kv z
  refine ⟨ps, ?_, h2, fun pos cv hc => ?_⟩
  · rw [upd_ne (far h1 (fun _ z => by cases z) (fun _ z => by cases z) (fun _ z => by cases z))]
    exact h1
  · obtain ⟨c, e1, e2⟩ := h3 pos cv hc
    refine ⟨c, e1, ?_⟩
    rw [upd_ne (far e2 (fun _ z => by unfold LamX.CodeO at z; cases z) (fun _ z => by unfold LamX.CodeO at z; cases z) (fun _ z => by unfold LamX.CodeO at z; cases z))]
    exact e2
theorem cont_kind {a : Addr} {d : D} {M : Msk} (h : Cont K M H a d) : ∃ u, H a = some u ∧ ((∃ xs, u = .lst xs) ∨ (∃ kv, u = .dK kv) ∨ ∃ kt, u = .dT kt) := by
  cases d with
  | list ds => obtain ⟨xs, e, _⟩ := h; exact ⟨_, e, .inl ⟨_, rfl⟩⟩
  | dict ds =>
    rcases h with ⟨kv, e, _⟩ | ⟨kv, e, _⟩
    · exact ⟨_, e, .inr (.inl ⟨_, rfl⟩)⟩
    · exact ⟨_, e, .inr (.inr ⟨_, rfl⟩)⟩
  | none => exact h.elim
  | bool _ => exact h.elim
  | int _ => exact h.elim
  | str _ => exact h.elim
  | tuple _ => exact h.elim
/-- an owned container, or one that is lent, is changed in place -/
theorem Go.write (R : Rep K Mi σ H δ) {i : Nat} {p : Addr} {o : HO} {d d' : D} {c : Cell} (e : δ[i]? = some (some c)) (hc : (c = .own d) ∨ (c = .ref d)) (s : σ[i]? = some (some (.ref p)))
    (ct : Cont K (msk Mi σ δ) (upd H p o) p d') : Go K Mi Mi σ H δ σ (upd H p o) (δ.set i (some (upCell c d'))) := by
  have hi : i < δ.length := (List.getElem?_eq_some_iff.mp e).1
  have hm : c.isMut = true := by
    rcases hc with z | z <;> (subst z; rfl)
  have here : msk Mi σ δ p := by
    obtain ⟨u, eu, r⟩ := R.cell i c e
    rw [s] at eu
    cases eu
    rcases hc with z | z
    · subst z
      exact .inr ⟨i, d, e, s⟩
    · subst z
      obtain ⟨b, eb, mb, _⟩ := r
      cases eb
      exact .inl mb
  have there : ∃ u, H p = some u ∧ ((∃ xs, u = .lst xs) ∨ (∃ kv, u = .dK kv) ∨ ∃ kt, u = .dT kt) := by
    obtain ⟨u, eu, r⟩ := R.cell i c e
    rw [s] at eu
    cases eu
    rcases hc with z | z
    · subst z
      obtain ⟨b, eb, nb, q⟩ := r
      cases eb
      exact cont_kind q
    · subst z
      obtain ⟨b, eb, mb, q⟩ := r
      cases eb
      exact cont_kind q
  have tr : ∃ u, H p = some u := by
    cases q : H p with
    | none => exact absurd q (R.dom' here)
    | some u => exact ⟨u, rfl⟩
  have own_ : ∀ b, Owned σ (δ.set i (some (upCell c d'))) b ↔ Owned σ δ b := fun b => by
    constructor
    · rintro ⟨j, d2, e1, e2⟩
      rcases get_set_some e1 with ⟨rfl, z, _⟩ | ⟨ne, z⟩
      · rcases hc with y | y
        · subst y
          exact ⟨_, d, e, e2⟩
        · subst y
          cases z
      · exact ⟨j, d2, z, e2⟩
    · rintro ⟨j, d2, e1, e2⟩
      by_cases q : j = i
      · subst q
        rw [e] at e1
        cases e1
        exact ⟨j, d', List.getElem?_set_self hi, e2⟩
      · refine ⟨j, d2, ?_, e2⟩
        rw [List.getElem?_set_ne (Ne.symm q)]
        exact e1
  have mk : msk Mi σ (δ.set i (some (upCell c d'))) = msk Mi σ δ := by
    funext b
    exact propext ⟨fun z => z.elim .inl fun z => .inr ((own_ b).mp z), fun z => z.elim .inl fun z => .inr ((own_ b).mpr z)⟩
  have m : Mv (msk Mi σ δ) H (msk Mi σ δ) (upd H p o) := fun a u n q _ => ⟨n, by
    rw [upd_ne (b := a) fun z => n (by rw [z]; exact here)]
    exact q⟩
  have isOwn : Owned σ δ p ∨ Lent σ δ p := by
    rcases hc with z | z
    · subst z
      exact .inl ⟨i, d, e, s⟩
    · subst z
      exact .inr ⟨i, d, e, s⟩
  refine ⟨⟨by rw [List.length_set]; exact R.len, fun j c' e' => ?_, fun j k c1 c2 b ne e1 e2 m1 m2 s1 s2 => ?_, fun a z q => R.dom a z (trk_upd a q), fun q hq => ⟨(R.pin q hq).1, pin_up (R.pin q hq).2 e hc⟩, TabsN.upd R.tab there⟩, fun a u n1 n2 q _ => ?_, fun a h => .inl ((own_ a).mp h), fun j ⟨d2, q⟩ => ?_, fun j ⟨d2, q⟩ => ?_, trk_upd⟩
  · rw [mk]
    rcases get_set_some e' with ⟨rfl, z, _⟩ | ⟨ne, z⟩
    · refine ⟨.ref p, s, ?_⟩
      obtain ⟨u, eu, r⟩ := R.cell j c e
      rw [s] at eu
      cases eu
      rcases hc with y | y
      · subst y
        cases z
        obtain ⟨b, eb, nb, _⟩ := r
        cases eb
        exact ⟨p, rfl, nb, ct⟩
      · subst y
        cases z
        obtain ⟨b, eb, nb, _⟩ := r
        cases eb
        exact ⟨p, rfl, nb, ct⟩
    · obtain ⟨u, eu, r⟩ := R.cell j c' z
      refine ⟨u, eu, r.mv m (fun _ _ _ _ _ z => z) (fun _ _ z _ => z) fun a hm' ev => ?_⟩
      subst ev
      refine upd_ne fun q => ?_
      subst q
      exact R.sep j i c' c a ne z e hm' hm eu s
  · have back : ∀ {j : Nat} {c1 : Cell}, (δ.set i (some (upCell c d')))[j]? = some (some c1) → c1.isMut = true → ∃ c0 : Cell, δ[j]? = some (some c0) ∧ c0.isMut = true := fun {j c1} q mq => by
      rcases get_set_some q with ⟨rfl, z, _⟩ | ⟨_, z⟩
      · exact ⟨c, e, hm⟩
      · exact ⟨c1, z, mq⟩
    obtain ⟨c3, q3, m3⟩ := back e1 m1
    obtain ⟨c4, q4, m4⟩ := back e2 m2
    exact R.sep j k c3 c4 b ne q3 q4 m3 m4 s1 s2
  · rw [upd_ne (b := a) fun z => isOwn.elim (fun y => n1 (by rw [z]; exact y)) fun y => n2 (by rw [z]; exact y)]
    exact q
  · refine ⟨rfl, ?_⟩
    by_cases z : j = i
    · subst z
      rw [e] at q
      cases q
      exact ⟨d', List.getElem?_set_self hi⟩
    · refine ⟨d2, ?_⟩
      rw [List.getElem?_set_ne (Ne.symm z)]
      exact q
  · rcases get_set_some q with ⟨rfl, z, _⟩ | ⟨_, z⟩
    · rcases hc with y | y
      · subst y
        cases z
      · subst y
        exact ⟨d, e⟩
    · exact ⟨d2, z⟩
end
end Dl

set_option Elab.async false
set_option linter.all false
set_option maxRecDepth 100000
namespace Dl
open PySem PySem.Spec PyProof.Rows L2
variable [Reg] [TabC]

/-! ### new containers as results -/
def RunN (X : Cx) (W : WX) (Mi : Msk) (σ : St) (H : Hp) (δ : DEnv) (r : R D) (Q : VK) : Prop :=
  match r with
  | .ok d δ' => ∀ a H', Go X.K Mi (plus Mi a) σ H δ σ H' δ' → H a = none → Cont X.K (msk (plus Mi a) σ δ') H' a d → Q (.ref a) H'
  | .err x δ' => ErrTo X W Mi σ H δ x δ'
  | .bad => False
def tN (X : Cx) (W : WX) (F : Fe D) : TE := fun σ H Q => ∃ Mi δ, Rep X.K Mi σ H δ ∧ RunN X W Mi σ H δ (F δ) Q
/-- e makes a new container, F's datum -/
def DO (X : Cx) (W : WX) (e : Expr) (F : Fe D) : Prop := PE X e (tN X W F)

/-! ### statements -/
inductive RS where
  | next (δ : DEnv)
  | ret (c : Cell) (δ : DEnv)
  | brk (δ : DEnv)
  | cont (δ : DEnv)
  | err (x : Exn) (δ : DEnv)
  | bad
abbrev Fs := DEnv → RS
def R.bindS {α : Type} : R α → (α → DEnv → RS) → RS
  | .ok a δ, g => g a δ
  | .err x δ, _ => .err x δ
  | .bad, _ => .bad
def RunS (X : Cx) (W : WX) (Mi : Msk) (σ : St) (H : Hp) (δ : DEnv) (r : RS) (E : Ends) : Prop :=
  match r with
  | .next δ' => ∀ σ' H', Go X.K Mi Mi σ H δ σ' H' δ' → E.nx σ' H'
  | .ret (.val d) δ' => ∀ v σ' H', Go X.K Mi Mi σ H δ σ' H' δ' → Dat X.K (msk Mi σ' δ') H' d v → E.rt v H'
  | .ret (.own d) δ' => ∀ a σ' H', Go X.K Mi (plus Mi a) σ H δ σ' H' δ' → (Owned σ δ a ∨ H a = none) → Cont X.K (msk (plus Mi a) σ' δ') H' a d → E.rt (.ref a) H'
  | .ret _ _ => False
  | .brk δ' => ∀ σ' H', Go X.K Mi Mi σ H δ σ' H' δ' → E.bk σ' H'
  | .cont δ' => ∀ σ' H', Go X.K Mi Mi σ H δ σ' H' δ' → E.ct σ' H'
  | .err x δ' => ErrTo X W Mi σ H δ x δ'
  | .bad => False
def tS (X : Cx) (W : WX) (F : Fs) : TS := fun E σ H => ∃ Mi δ, Rep X.K Mi σ H δ ∧ RunS X W Mi σ H δ (F δ) E
def DS (X : Cx) (W : WX) (st : Stmt) (F : Fs) : Prop := PS X st (tS X W F)
def DSs (X : Cx) (W : WX) (sts : List Stmt) (F : Fs) : Prop := PSs X sts (tS X W F)

section
variable {X : Cx} {W : WX} {Mi : Msk} {σ σ1 : St} {H H1 : Hp} {δ δ1 : DEnv}
theorem RunN.go {r : R D} {Q : VK} (g : Go X.K Mi Mi σ H δ σ H1 δ1) (h : RunN X W Mi σ H δ r Q) : RunN X W Mi σ H1 δ1 r Q := by
  cases r with
  | ok a δ' => exact fun a H' g' n c => h a H' (g.trans g') (g.trk a n) c
  | err x δ' => exact ErrTo.go g h
  | bad => exact h
theorem RunN.bind {α β : Type} {P : Rl α β} {r : R α} {G : α → DEnv → R D} {Q : VK} (h : RunN X W Mi σ H δ (r.bind G) Q) :
    RunG X W P Mi σ H δ r fun v H1 => ∃ a δ1, Go X.K Mi Mi σ H δ σ H1 δ1 ∧ P Mi a σ δ1 H1 v ∧ RunN X W Mi σ H1 δ1 (G a δ1) Q := by
  cases r with
  | ok a δ' => exact fun v H' g' p => ⟨a, δ', g', p, RunN.go g' h⟩
  | err x δ' => exact h
  | bad => exact h
theorem tN_bind {α β : Type} {P : Rl α β} {F : Fe α} {G : α → DEnv → R D} {Q : VK} (h : tN X W (fun δ => (F δ).bind G) σ H Q) :
    tG X W P F σ H fun v H1 => ∃ Mi a δ1, Rep X.K Mi σ H1 δ1 ∧ P Mi a σ δ1 H1 v ∧ RunN X W Mi σ H1 δ1 (G a δ1) Q := by
  obtain ⟨Mi, δ, R, h⟩ := h
  exact ⟨Mi, δ, R, h.bind.imp fun v H' ⟨a, δ1, g, p, r⟩ => ⟨Mi, a, δ1, g.rep, p, r⟩⟩
/-- a new container may be shared at once -/
theorem de_do {e : Expr} {F : Fe D} (h : DO X W e F) : DE X W e F := by
  refine PE.imp h fun σ H Q ⟨Mi, δ, R, q⟩ => ⟨Mi, δ, R, ?_⟩
  cases e : F δ with
  | ok d δ' =>
    rw [e] at q
    exact fun a H' g n c => q (.ref a) H' (g.drop R n) (g.given R n c)
  | err x δ' =>
    rw [e] at q
    exact q
  | bad =>
    rw [e] at q
    exact q
/-- a new list at p -/
theorem RunN.lst {δ' : DEnv} {Q : VK} {ds : List D} {xs : List V} (R : Rep X.K Mi σ H δ) (h : RunN X W Mi σ H δ (.ok (.list ds) δ) Q) (r : DatAll X.K (msk Mi σ δ) H ds xs) (p : Addr) (n : H p = none) : Q (.ref p) (upd H p (.lst xs)) := by
  refine h p _ (Go.new R n) n ⟨xs, upd_same, r.mv fun a u q e _ => ⟨fun z => ?_, Al.new n a u e⟩⟩
  rcases z with (z | z) | z
  · exact q (.inl z)
  · subst z
    rw [n] at e
    cases e
  · exact q (.inr z)
theorem do_lst {es : List Expr} {F : Fe (List D)} {pos} (h : DA X W es F) : DO X W (.List es pos) (fLst F) := by
  refine PE.imp (pe_lst h) fun σ H Q q => ?_
  obtain ⟨Mi, δ, R, q⟩ := tN_bind (P := pA X) q
  refine ⟨Mi, δ, R, q.imp fun vs H1 ⟨Mi, ds, δ1, R1, p, r⟩ => ?_⟩
  have p' : DatAll X.K (msk Mi σ δ1) H1 ds vs := p
  unfold okLen at r
  split at r
  · rename_i hl
    exact ⟨lenLine (by rw [p'.length]; exact hl), fun b nb => RunN.lst (δ' := δ1) R1 r p' b nb⟩
  · exact False.elim r

theorem RunS.go {r : RS} {E : Ends} (g : Go X.K Mi Mi σ H δ σ1 H1 δ1) (h : RunS X W Mi σ H δ r E) : RunS X W Mi σ1 H1 δ1 r E := by
  cases r with
  | next δ' => exact fun σ' H' g' => h σ' H' (g.trans g')
  | ret c δ' =>
    cases c with
    | val d => exact fun v σ' H' g' p => h v σ' H' (g.trans g') p
    | own d =>
      refine fun a σ' H' g' n p => h a σ' H' (g.trans g') ?_ p
      rcases n with n | n
      · exact g.own a n
      · exact .inr (g.trk a n)
    | ref d => exact h
    | exc _ _ _ => exact h
  | brk δ' => exact fun σ' H' g' => h σ' H' (g.trans g')
  | cont δ' => exact fun σ' H' g' => h σ' H' (g.trans g')
  | err x δ' => exact fun cls dd σ' H' c g' e => h cls dd σ' H' c (g.trans g') e
  | bad => exact h
theorem RunS.bind {α β : Type} {P : Rl α β} {r : R α} {G : α → DEnv → RS} {E : Ends} (h : RunS X W Mi σ H δ (r.bindS G) E) :
    RunG X W P Mi σ H δ r fun v H1 => ∃ a δ1, Go X.K Mi Mi σ H δ σ H1 δ1 ∧ P Mi a σ δ1 H1 v ∧ RunS X W Mi σ H1 δ1 (G a δ1) E := by
  cases r with
  | ok a δ' => exact fun v H' g' p => ⟨a, δ', g', p, RunS.go g' h⟩
  | err x δ' => exact h
  | bad => exact h
theorem tS_bind {α β : Type} {P : Rl α β} {F : Fe α} {G : α → DEnv → RS} {E : Ends} (h : tS X W (fun δ => (F δ).bindS G) E σ H) :
    tG X W P F σ H fun v H1 => ∃ Mi a δ1, Rep X.K Mi σ H1 δ1 ∧ P Mi a σ δ1 H1 v ∧ RunS X W Mi σ H1 δ1 (G a δ1) E := by
  obtain ⟨Mi, δ, R, h⟩ := h
  exact ⟨Mi, δ, R, h.bind.imp fun v H' ⟨a, δ1, g, p, r⟩ => ⟨Mi, a, δ1, g.rep, p, r⟩⟩
theorem RunS.nx {E : Ends} {δ' : DEnv} (R : Rep X.K Mi σ H δ) (h : RunS X W Mi σ H δ (.next δ) E) : E.nx σ H := h σ H (Go.refl R)

def sNext : Fs := fun δ => .next δ
/-- one behind another -/
def sSeq (F G : Fs) : Fs := fun δ =>
  match F δ with
  | .next δ' => G δ'
  | r => r
theorem ds_nil : DSs X W [] sNext := PSs.imp pss_nil fun σ H E ⟨Mi, δ, R, h⟩ => h σ H (Go.refl R)
theorem RunS.ends {r : RS} {E E' : Ends} (h : RunS X W Mi σ H δ r E) (h1 : ∀ σ' H', E.nx σ' H' → E'.nx σ' H') (h2 : ∀ v H', E.rt v H' → E'.rt v H') (h3 : ∀ σ' H', E.bk σ' H' → E'.bk σ' H') (h4 : ∀ σ' H', E.ct σ' H' → E'.ct σ' H') : RunS X W Mi σ H δ r E' := by
  cases r with
  | next δ' => exact fun σ' H' g' => h1 _ _ (h σ' H' g')
  | ret c δ' =>
    cases c with
    | val d => exact fun v σ' H' g' p => h2 _ _ (h v σ' H' g' p)
    | own d => exact fun a σ' H' g' n p => h2 _ _ (h a σ' H' g' n p)
    | ref d => exact h
    | exc _ _ _ => exact h
  | brk δ' => exact fun σ' H' g' => h3 _ _ (h σ' H' g')
  | cont δ' => exact fun σ' H' g' => h4 _ _ (h σ' H' g')
  | err x δ' => exact h
  | bad => exact h
/-- the first part of a run; what follows is run from there -/
theorem RunS.seq {r : RS} {G : Fs} {E : Ends} (h : RunS X W Mi σ H δ (match r with | .next δ' => G δ' | r => r) E) : RunS X W Mi σ H δ r { E with nx := tS X W G E } := by
  cases r with
  | next δ' => exact fun σ' H' g' => ⟨Mi, δ', g'.rep, RunS.go g' h⟩
  | ret c δ' =>
    cases c with
    | val d => exact h
    | own d => exact h
    | ref d => exact h
    | exc _ _ _ => exact h
  | brk δ' => exact h
  | cont δ' => exact h
  | err x δ' => exact h
  | bad => exact h
variable {st : Stmt} {rest body orelse : List Stmt} {F G : Fs} {pos : Pos} {e : Expr} {Fv : Fe D}
theorem ds_cons (h : DS X W st F) (t : DSs X W rest G) : DSs X W (st :: rest) (sSeq F G) :=
  PSs.imp (pss_cons h t) fun σ H E ⟨Mi, δ, R, q⟩ => ⟨Mi, δ, R, RunS.seq q⟩
theorem ds_one (h : DS X W st F) : DSs X W [st] F := pss_one h
def sDrop (F : Fe D) : Fs := fun δ => (F δ).bindS fun _ δ1 => .next δ1
def sBad : Fs := fun _ => .bad
theorem dss_never : DSs X W rest sBad := PSs.imp pss_never fun σ H E ⟨Mi, δ, R, h⟩ => h.elim
def sRet (F : Fe D) : Fs := fun δ => (F δ).bindS fun d δ1 => .ret (.val d) δ1
theorem ds_ret (h : DE X W e Fv) : DS X W (.Return (some e) pos) (sRet Fv) := by
  refine PS.imp (ps_ret h) fun σ H E q => ?_
  obtain ⟨Mi, δ, R, q⟩ := tS_bind (P := pD X) q
  exact ⟨Mi, δ, R, q.imp fun v H1 ⟨Mi, d, δ1, R1, p, r⟩ => r v σ H1 (Go.refl R1) p⟩
def sRetO (F : Fe D) : Fs := fun δ => (F δ).bindS fun d δ1 => .ret (.own d) δ1
theorem ds_retO (h : DO X W e Fv) : DS X W (.Return (some e) pos) (sRetO Fv) := by
  refine PS.imp (ps_ret h) fun σ H E ⟨Mi, δ, R, q⟩ => ⟨Mi, δ, R, ?_⟩
  unfold sRetO at q
  cases ef : Fv δ with
  | ok d δ' =>
    rw [ef] at q
    exact fun a H' g n c => q a σ H' g (.inr n) c
  | err x δ' =>
    rw [ef] at q
    exact q
  | bad =>
    rw [ef] at q
    exact q
def sRetN : Fs := fun δ => .ret (.val .none) δ
/-- a slot is handed back: what was its own is the caller's -/
def sRetV (i : Nat) : Fs := fun δ =>
  match δ[i]? with
  | some (some (.val d)) => .ret (.val d) δ
  | some (some (.own d)) => .ret (.own d) (δ.set i none)
  | _ => .bad
theorem Go.release {K : PySem.W.Frag} {i : Nat} {a : Addr} {d : D} (R : Rep K Mi σ H δ) (e : δ[i]? = some (some (.own d))) (s : σ[i]? = some (some (.ref a))) :
    Go K Mi (plus Mi a) σ H δ σ H (δ.set i none) ∧ Cont K (msk (plus Mi a) σ (δ.set i none)) H a d := by
  obtain ⟨v, ev, b, rfl, nb, ct⟩ := R.cell i _ e
  rw [s] at ev
  cases ev
  have back : ∀ {j : Nat} {c : Cell}, (δ.set i none)[j]? = some (some c) → j ≠ i ∧ δ[j]? = some (some c) := fun {j c} q => by
    rcases get_set_some q with ⟨_, z, _⟩ | z
    · cases z
    · exact z
  have own_ : ∀ b, Owned σ (δ.set i none) b → Owned σ δ b := fun b ⟨j, d', e1, e2⟩ => ⟨j, d', (back e1).2, e2⟩
  have m : Mv (msk Mi σ δ) H (msk (plus Mi a) σ (δ.set i none)) H := Mv.shrink fun b z => by
    rcases z with (z | z) | z
    · exact .inl z
    · subst z
      exact .inr ⟨i, d, e, s⟩
    · exact .inr (own_ b z)
  have sep_ : ∀ (j : Nat) (c : Cell), (δ.set i none)[j]? = some (some c) → c.isMut = true → σ[j]? ≠ some (some (V.ref a)) := fun j c q hm z => R.sep j i c _ a (back q).1 (back q).2 e hm rfl z s
  refine ⟨⟨⟨by rw [List.length_set]; exact R.len, fun j c q => ?_, fun j k c c' b ne q1 q2 => R.sep j k c c' b ne (back q1).2 (back q2).2, fun b z => ?_, fun p hp => ⟨(R.pin p hp).1, pin_far (R.pin p hp).2 e⟩, R.tab⟩, fun _ _ _ _ q _ => q, fun b z => .inl (own_ b z), fun j ⟨d', q⟩ => ⟨rfl, d', ?_⟩, fun j ⟨d', q⟩ => ⟨d', (back q).2⟩, fun _ h => h⟩, ct.mv m rfl⟩
  · obtain ⟨u, eu, r⟩ := R.cell j c (back q).2
    exact ⟨u, eu, r.mv m (fun b o hm ev _ z y => y.elim z fun w => sep_ j c q hm (by rw [eu, ev, w])) (fun _ _ z _ => .inl z) fun _ _ _ => rfl⟩
  · rcases z with z | z
    · exact R.dom b z
    · subst z
      obtain ⟨o, eo⟩ := ct.some
      rw [eo]
      exact Option.some_ne_none _
  · rw [List.getElem?_set_ne (fun z => by
      subst z
      rw [e] at q
      cases q)]
    exact q
end
end Dl

set_option Elab.async false
set_option linter.all false
set_option maxRecDepth 100000
namespace Dl
open PySem PySem.Spec PyProof.Rows L2
variable [Reg] [TabC]
section
variable {X : Cx} {W : WX} {Mi : Msk} {σ σ1 : St} {H H1 : Hp} {δ δ1 : DEnv} {st : Stmt} {rest body orelse : List Stmt} {F G : Fs} {pos : Pos} {e : Expr} {Fv : Fe D}

theorem ds_retV {i : Nat} {x : Str} {p : Pos} (hN : X.N[i]? = some x) (hv : Vis X.env.scope x) (hd : (x == ("__debug__" : Str)) = false := by decide +kernel) (hcd : (x == ("__classdict__" : Str)) = false := by decide +kernel) : DS X W (.Return (some (.Name x p)) pos) (sRetV i) := by
  refine PS.imp (ps_ret (pe_var hN hv hd hcd)) fun σ H E ⟨Mi, δ, R, q⟩ => ?_
  unfold sRetV at q
  split at q
  · rename_i d e
    obtain ⟨v, ev, r⟩ := R.cell i _ e
    exact ⟨v, ev, q v σ H (Go.refl R) r⟩
  · rename_i d e
    obtain ⟨v, ev, a, rfl, _⟩ := R.cell i _ e
    obtain ⟨g, c⟩ := Go.release R e ev
    exact ⟨_, ev, q a σ H g (.inl ⟨i, d, e, ev⟩) c⟩
  · exact q.elim

/-! ### assignment -/
/-- a slot may be stored to -/
def free (δ : DEnv) (i : Nat) : Bool := decide (i < δ.length) && !isRef δ[i]?
theorem free_un {i : Nat} (h : free δ i = true) : i < δ.length ∧ isRef δ[i]? = false := by
  unfold free at h
  simp only [Bool.and_eq_true, decide_eq_true_eq, Bool.not_eq_true'] at h
  exact h
def sSet (i : Nat) (F : Fe D) : Fs := fun δ => (F δ).bindS fun d δ1 => if free δ1 i = true then .next (δ1.set i (some (.val d))) else .bad
theorem ds_set {i : Nat} {x : Str} {p : Pos} (hN : X.N.Nodup) (hi : X.N[i]? = some x) (hx : Loc X.env.scope x) (h : DE X W e Fv) (hs : swapsWith e (some (.Name x p)) pos.line X.env = pure false := by rfl) (hf : X.fn x = true ∨ X.env.scope.names.lookup x = some .local := by first | exact .inl rfl | exact .inr rfl | assumption) :
    DS X W (.Assign [.Name x p] e pos) (sSet i Fv) := by
  refine PS.imp (ps_set hN hi hx h hs hf) fun σ H E q => ?_
  obtain ⟨Mi, δ, R, q⟩ := tS_bind (P := pD X) q
  refine ⟨Mi, δ, R, q.imp fun v H1 ⟨Mi, d, δ1, R1, p, r⟩ => ?_⟩
  split at r
  · rename_i hf
    obtain ⟨h1, h2⟩ := free_un hf
    exact r _ _ (Go.store R1 h1 h2 p)
  · exact False.elim r
def sSetO (i : Nat) (F : Fe D) : Fs := fun δ => (F δ).bindS fun d δ1 => if free δ1 i = true then .next (δ1.set i (some (.own d))) else .bad
theorem setO_rd {i : Nat} {E : Ends} (q : tS X W (sSetO i Fv) E σ H) : tN X W Fv σ H fun v H1 => E.nx (σ.set i (some v)) H1 := by
  obtain ⟨Mi, δ, R, q⟩ := q
  refine ⟨Mi, δ, R, ?_⟩
  unfold sSetO at q
  cases ef : Fv δ with
  | ok d δ' =>
    rw [ef] at q
    have q' : RunS X W Mi σ H δ (if free δ' i = true then .next (δ'.set i (some (.own d))) else .bad) E := q
    split at q'
    · rename_i hf
      obtain ⟨h1, h2⟩ := free_un hf
      exact fun a H' g n c => q' _ _ (Go.storeOwn R g n c h1 h2)
    · exact q'.elim
  | err x δ' =>
    rw [ef] at q
    exact q
  | bad =>
    rw [ef] at q
    exact q
theorem ds_setO {i : Nat} {x : Str} {p : Pos} (hN : X.N.Nodup) (hi : X.N[i]? = some x) (hx : Loc X.env.scope x) (h : DO X W e Fv) (hs : swapsWith e (some (.Name x p)) pos.line X.env = pure false := by rfl) (hf : X.fn x = true ∨ X.env.scope.names.lookup x = some .local := by first | exact .inl rfl | exact .inr rfl | assumption) :
    DS X W (.Assign [.Name x p] e pos) (sSetO i Fv) :=
  PS.imp (ps_set hN hi hx h hs hf) fun σ H E q => setO_rd q

/-! ### targets -/
/-- what a target makes of a datum -/
abbrev Bd := D → DEnv → Option DEnv
abbrev Bds := List D → DEnv → Option DEnv
/-- the slots that a target stores to -/
def Far (sl : List Nat) (σ σ' : St) : Prop := σ'.length = σ.length ∧ ∀ j, j ∉ sl → σ'[j]? = σ[j]?
theorem Far.refl {sl : List Nat} {σ : St} : Far sl σ σ := ⟨rfl, fun _ _ => rfl⟩
def tB1 (X : Cx) (sl : List Nat) (B : Bd) : TG := fun v σ H Q => ∃ Mi d δ, Rep X.K Mi σ H δ ∧ Dat X.K (msk Mi σ δ) H d v ∧ ∃ δ', B d δ = some δ' ∧ ∀ σ', Go X.K Mi Mi σ H δ σ' H δ' → Far sl σ σ' → Q σ' H
def tBs (X : Cx) (sl : List Nat) (B : Bds) : TGs := fun vs σ H Q => ∃ Mi ds δ, Rep X.K Mi σ H δ ∧ DatAll X.K (msk Mi σ δ) H ds vs ∧ ∃ δ', B ds δ = some δ' ∧ ∀ σ', Go X.K Mi Mi σ H δ σ' H δ' → Far sl σ σ' → Q σ' H
def DG (X : Cx) (t : Expr) (sl : List Nat) (B : Bd) : Prop := PG X t (tB1 X sl B)
def DGs (X : Cx) (ts : List Expr) (sl : List Nat) (B : Bds) : Prop := PGs X ts (tBs X sl B)
theorem PG.imp {t : Expr} {g g' : TG} (h : PG X t g) (i : ∀ v σ H Q, g' v σ H Q → g v σ H Q) : PG X t g' := ⟨fun pins s σ H x v Q I r q => h.run pins s σ H x v Q I r (i _ _ _ _ q)⟩
theorem PGs.imp {t : List Expr} {g g' : TGs} (h : PGs X t g) (i : ∀ v σ H Q, g' v σ H Q → g v σ H Q) : PGs X t g' := ⟨fun pins s σ H x v Q I r q => h.run pins s σ H x v Q I r (i _ _ _ _ q)⟩
def bName (i : Nat) : Bd := fun d δ => if free δ i = true then some (δ.set i (some (.val d))) else none
theorem dg_name {i : Nat} {x : Str} {p : Pos} (hN : X.N.Nodup) (hi : X.N[i]? = some x) (hx : Loc X.env.scope x) (hf : X.fn x = true ∨ X.env.scope.names.lookup x = some .local := by first | exact .inl rfl | exact .inr rfl | assumption) : DG X (.Name x p) [i] (bName i) := by
  refine PG.imp (pg_name hN hi hx hf) fun v σ H Q ⟨Mi, d, δ, R, dv, δ', e, q⟩ => ?_
  unfold bName at e
  obtain ⟨hf, e⟩ := some_if e
  subst e
  obtain ⟨h1, h2⟩ := free_un hf
  exact q _ (Go.store R h1 h2 dv) ⟨List.length_set, fun j hj => List.getElem?_set_ne (fun z => hj (by simp [z]))⟩
def bNil : Bds := fun ds δ =>
  match ds with
  | [] => some δ
  | _ => none
def bCons (B : Bd) (C : Bds) : Bds := fun ds δ =>
  match ds with
  | d :: r => (B d δ).bind (C r)
  | [] => none
def bTup (n : Nat) (B : Bds) : Bd := fun d δ =>
  match d with
  | .tuple ds => if ds.length = n then B ds δ else none
  | _ => none
theorem dgs_nil : DGs X [] [] bNil := by
  refine PGs.imp pgs_nil fun v σ H Q ⟨Mi, ds, δ, R, dv, δ', e, q⟩ => ?_
  unfold bNil at e
  split at e
  · cases e
    exact ⟨dv.nil_inv, q σ (Go.refl R) .refl⟩
  · cases e
theorem dgs_cons {t : Expr} {ts : List Expr} {sl sl' : List Nat} {B : Bd} {C : Bds} (h : DG X t sl B) (hs : DGs X ts sl' C) (hp : (assignEach (t :: ts) X.env).map (fun x => x.2) = assign t X.env :: (assignEach ts X.env).map (fun x => x.2) := by rfl) : DGs X (t :: ts) (sl ++ sl') (bCons B C) := by
  refine PGs.imp (pgs_cons h hs hp) fun v σ H Q ⟨Mi, ds, δ, R, dv, δ', e, q⟩ => ?_
  unfold bCons at e
  split at e
  · rename_i d r
    obtain ⟨v1, r1, rfl, h1, h2⟩ := dv.cons_inv
    obtain ⟨δ1, e1, e2⟩ := Option.bind_eq_some_iff.mp e
    refine ⟨v1, r1, rfl, Mi, d, δ, R, h1, δ1, e1, fun σ1 g1 f1 => ⟨Mi, r, δ1, g1.rep, h2.mv (g1.mv R), δ', e2, fun σ2 g2 f2 => q σ2 (g1.trans g2) ⟨f2.1.trans f1.1, fun j hj => ?_⟩⟩⟩
    rw [f2.2 j fun z => hj (List.mem_append_right _ z), f1.2 j fun z => hj (List.mem_append_left _ z)]
  · cases e
theorem dg_tup {es : List Expr} {k n : Nat} {sl : List Nat} {B : Bds} {p : Pos} (hc : X.calm = true) (h : DGs X es sl B) (hn : (assignEach es X.env).length = n := by rfl) (hst : (assignEach es X.env).findIdx? (fun x => x.1) = none := by rfl) : DG X (.Tuple es k p) sl (bTup n B) := by
  refine PG.imp (pg_tup hc h hn hst) fun v σ H Q ⟨Mi, d, δ, R, dv, δ', e, q⟩ => ?_
  unfold bTup at e
  split at e
  · rename_i ds
    split at e
    · rename_i hl
      simp only [Dat] at dv
      obtain ⟨a, xs, rfl, l, r⟩ := dv
      exact ⟨a, xs, rfl, l.sq, by rw [r.length]; exact hl, Mi, ds, δ, R, r, δ', e, q⟩
    · cases e
  · cases e
def sAsg (F : Fe D) (B : Bd) : Fs := fun δ => (F δ).bindS fun d δ1 =>
  match B d δ1 with
  | some δ2 => .next δ2
  | none => .bad
theorem ds_asg {tg : Expr} {sl : List Nat} {B : Bd} (h : DE X W e Fv) (g : DG X tg sl B) (hs : swapsWithSole [tg] e pos.line X.env = pure false := by rfl) (hw : swappedStores [tg] e X.env = pure none := by rfl) (h1 : (assignEach [tg] X.env).map (fun x => x.2) = [assign tg X.env] := by rfl) : DS X W (.Assign [tg] e pos) (sAsg Fv B) := by
  refine PS.imp (ps_asg h g hs hw h1) fun σ H E q => ?_
  obtain ⟨Mi, δ, R, q⟩ := tS_bind (P := pD X) q
  refine ⟨Mi, δ, R, q.imp fun v H1 ⟨Mi, d, δ1, R1, p, r⟩ => ?_⟩
  split at r
  · rename_i δ2 e2
    exact ⟨Mi, d, δ1, R1, p, δ2, e2, fun σ' g _ => r σ' H1 g⟩
  · exact False.elim r
theorem free_set {i j : Nat} {c : Cell} (h : free δ j = true) (hc : isRef (some (some c)) = false) : free (δ.set i (some c)) j = true := by
  obtain ⟨h1, h2⟩ := free_un h
  unfold free
  simp only [Bool.and_eq_true, decide_eq_true_eq, Bool.not_eq_true', List.length_set]
  refine ⟨h1, ?_⟩
  rw [List.getElem?_set]
  split
  · split
    · exact hc
    · rfl
  · exact h2
/-! ### if, while, for -/
def sIf (T : Fe Bool) (F G : Fs) : Fs := fun δ => (T δ).bindS fun b δ1 => if b = true then F δ1 else G δ1
theorem ds_if {c : Expr} {T : Fe Bool} (hc : DT X W c T) (ha : DSs X W body F) (hb : DSs X W orelse G) : DS X W (.If c body orelse pos) (sIf T F G) := by
  refine PS.imp (ps_if hc ha hb) fun σ H E q => ?_
  obtain ⟨Mi, δ, R, q⟩ := tS_bind (P := pB) q
  refine ⟨Mi, δ, R, q.imp fun v H1 ⟨Mi, k, δ1, R1, p, r⟩ => ?_⟩
  have e : v = k := p
  subst e
  cases v with
  | true => exact iteT ⟨Mi, δ1, R1, r⟩
  | false => exact iteF ⟨Mi, δ1, R1, r⟩
/-- what an iterator yields, as data; it stands still as long as what was readable is -/
def ItR (X : Cx) (M : Msk) (H : Hp) (J : It) (ds : List D) : Prop := ∀ M' H', Mv M H M' H' → (∀ a, M' a → H' a ≠ none) →
  (∀ i d, ds[i]? = some d → J.go i H' ∧ ∀ x H'', J.yld i H' x H'' → Al H' H'' ∧ Dat X.K M' H'' d x) ∧ J.stop ds.length H'
def pI (X : Cx) : Rl (List D) It := fun Mi ds σ δ H J => ItR X (msk Mi σ δ) H J ds
def DI (X : Cx) (W : WX) (tg iter : Expr) (F : Fe (List D)) : Prop := PI X tg iter (tG X W (pI X) F)
theorem PI.imp {tg iter : Expr} {w w' : TI} (h : PI X tg iter w) (i : ∀ σ H Q, w' σ H Q → w σ H Q) : PI X tg iter w' := ⟨fun pins s σ H R I q => h.run pins s σ H R I (i _ _ _ q)⟩
theorem SqL.at {K : PySem.W.Frag} {M M' : Msk} {H H' : Hp} {a : Addr} {xs : List V} {ds : List D} (l : LstAt K M H a xs) (r : DatAll K M H ds xs) (m : Mv M H M' H') : SqL K H' a xs ∧ DatAll K M' H' ds xs := ⟨(l.mv m).sq, r.mv m⟩
theorem itl_R {M : Msk} {a : Addr} {xs : List V} {ds : List D} (l : LstAt X.K M H a xs) (r : DatAll X.K M H ds xs) : ItR X M H (Itl X.K a) ds := fun M' H' m dom => by
  have l' := (l.mv m).sq
  have r' := r.mv m
  refine ⟨fun i d e => ?_, ⟨xs, l', by rw [r.length]; exact Nat.le_refl _⟩⟩
  obtain ⟨v, ev, dv⟩ := r'.get e
  refine ⟨⟨xs, v, l', ev⟩, fun x H'' y => ?_⟩
  obtain ⟨e1, y⟩ := y
  subst e1
  have h := y xs l'
  rw [ev] at h
  cases h
  exact ⟨Al.refl, dv⟩
theorem itt_R {M : Msk} {a : Addr} {xs : List V} {ds : List D} (l : TupAt X.K M H a xs) (r : DatAll X.K M H ds xs) : ItR X M H (Itt X.K a) ds := fun M' H' m dom => by
  have l' := (l.mv m).sq
  have r' := r.mv m
  refine ⟨fun i d e => ?_, ⟨xs, l', by rw [r.length]; exact Nat.le_refl _⟩⟩
  obtain ⟨v, ev, dv⟩ := r'.get e
  refine ⟨⟨xs, v, l', ev⟩, fun x H'' y => ?_⟩
  obtain ⟨e1, y⟩ := y
  subst e1
  have h := y xs l'
  rw [ev] at h
  cases h
  exact ⟨Al.refl, dv⟩
/-- the ints of a range -/
def rngL (lo : Int) (n : Nat) : List D := (List.range n).map fun i => .int (lo + (i : Nat))
theorem rngL_get {lo : Int} {n i : Nat} {d : D} (e : (rngL lo n)[i]? = some d) : i < n ∧ d = .int (lo + i) := by
  unfold rngL at e
  rw [List.getElem?_map] at e
  cases h : (List.range n)[i]? with
  | none =>
    rw [h] at e
    cases e
  | some j =>
    rw [h] at e
    have hj := List.getElem?_eq_some_iff.mp h
    obtain ⟨h1, h2⟩ := hj
    rw [List.length_range] at h1
    rw [List.getElem_range] at h2
    subst h2
    exact ⟨h1, (Option.some.inj e).symm⟩
theorem itr_R {M : Msk} {lo : Int} {n : Nat} : ItR X M H (Itr lo n) (rngL lo n) := fun M' H' m dom => by
  refine ⟨fun i d e => ?_, ?_⟩
  · obtain ⟨h1, rfl⟩ := rngL_get e
    refine ⟨h1, fun x H'' y => ?_⟩
    obtain ⟨e1, e2⟩ := y
    subst e1 e2
    exact ⟨Al.refl, .mkInt⟩
  · show n ≤ (rngL lo n).length
    unfold rngL
    rw [List.length_map, List.length_range]
    exact Nat.le_refl _
def rng1 : D → DEnv → R (List D)
  | .int j, δ => if -(2 ^ 62) ≤ j ∧ j < 2 ^ 62 then .ok (rngL 0 j.toNat) δ else .bad
  | _, _ => .bad
def iRng1 (F : Fe D) : Fe (List D) := fun δ => (F δ).bind rng1
theorem di_rng1 {tg a : Expr} {p pp : Pos} (hg : Gl X "range") (hm : X.mg "range" = none) (ha : DE X W a Fv) (hs : starEach [a] X.env = [(false, eval a X.env)] := by rfl) : DI X W tg (.Call (.Name "range" p) [a] [] pp) (iRng1 Fv) := by
  refine PI.imp (pi_range1 hg hm (pa_cons ha pa_nil hs) hs) fun σ H Q q => ?_
  obtain ⟨Mi, δ, R, q⟩ := tG_bind (P := pD X) q
  refine ⟨Mi, δ, R, q.imp fun v H1 ⟨Mi, d, δ1, R1, p, r⟩ => ?_⟩
  have p' : Dat X.K (msk Mi σ δ1) H1 d v := p
  cases d with
  | int j =>
    simp only [Dat] at p'
    subst p'
    have r' : RunG X W (pI X) Mi σ H1 δ1 (if -(2 ^ 62) ≤ j ∧ j < 2 ^ 62 then .ok (rngL 0 j.toNat) δ1 else .bad) Q := r
    split at r'
    · rename_i hb
      exact ⟨j, rfl, hb.1, hb.2, r' _ H1 (Go.refl R1) itr_R⟩
    · exact r'.elim
  | none => exact False.elim r
  | bool _ => exact False.elim r
  | str _ => exact False.elim r
  | list _ => exact False.elim r
  | tuple _ => exact False.elim r
  | dict _ => exact False.elim r
/-- for, item by item -/
def sForL (B : Bd) (F : Fs) : List D → Fs
  | [], δ => .next δ
  | d :: ds, δ =>
    match B d δ with
    | none => .bad
    | some δ1 => match F δ1 with
      | .next δ2 => sForL B F ds δ2
      | .cont δ2 => sForL B F ds δ2
      | .brk δ2 => .next δ2
      | r => r
def sFor (I : Fe (List D)) (B : Bd) (F : Fs) : Fs := fun δ => (I δ).bindS fun ds δ1 => sForL B F ds δ1
theorem for_rd {I : Fe (List D)} {sl : List Nat} {B : Bd} {E : Ends} {σ0 : St} {H0 : Hp} (q0 : tS X W (sFor I B F) E σ0 H0) : tFor (tG X W (pI X) I) (tB1 X sl B) (tS X W F) E σ0 H0 := by
  obtain ⟨Mi0, δ0, R0, q0⟩ := tS_bind (P := pI X) q0
  refine ⟨Mi0, δ0, R0, q0.imp fun J H1 ⟨Mi, ds, δ1, R1, p, r⟩ => ?_⟩
  have p' : ItR X (msk Mi σ0 δ1) H1 J ds := p
  refine ⟨fun i m σ H => m = ds.length - i ∧ i ≤ ds.length ∧ ∃ δ, Go X.K Mi Mi σ0 H1 δ1 σ H δ ∧ RunS X W Mi σ H δ (sForL B F (ds.drop i) δ) E, ⟨ds.length, by simp, Nat.zero_le _, δ1, Go.refl R1, r⟩, ?_⟩
  rintro i m σ H ⟨rfl, hi, δ, g, q⟩
  obtain ⟨pi, ps⟩ := p' _ _ (g.mv R1) fun a z => g.rep.dom' z
  by_cases hlt : i < ds.length
  · have ei : ds[i]? = some ds[i] := List.getElem?_eq_getElem hlt
    obtain ⟨go, y⟩ := pi i _ ei
    have ed : ds.drop i = ds[i] :: ds.drop (i + 1) := List.drop_eq_getElem_cons hlt
    rw [ed] at q
    have again : ∀ δ2, RunS X W Mi σ H δ (sForL B F (ds.drop (i + 1)) δ2) E → ∀ σ' H', Go X.K Mi Mi σ H δ σ' H' δ2 → ∃ δ, Go X.K Mi Mi σ0 H1 δ1 σ' H' δ ∧ RunS X W Mi σ' H' δ (sForL B F (ds.drop (i + 1)) δ) E :=
      fun δ2 h σ' H' g2 => ⟨δ2, g.trans g2, RunS.go g2 h⟩
    refine .inr ⟨go, fun σ' H' => ∃ δ, Go X.K Mi Mi σ0 H1 δ1 σ' H' δ ∧ RunS X W Mi σ' H' δ (sForL B F (ds.drop (i + 1)) δ) E, fun σ' H' h => ⟨ds.length - (i + 1), by omega, rfl, hlt, h⟩, fun x H2 hy => ?_⟩
    obtain ⟨al, dx⟩ := y x H2 hy
    have g2 := Go.al g.rep al
    have q2 := RunS.go g2 q
    unfold sForL at q2
    cases eb : B ds[i] δ with
    | none =>
      rw [eb] at q2
      exact q2.elim
    | some δ3 =>
      rw [eb] at q2
      refine ⟨Mi, _, δ, g2.rep, dx, δ3, eb, fun σ3 g3 _ => ⟨Mi, δ3, g3.rep, ?_⟩⟩
      have gg := g2.trans g3
      have q3 : RunS X W Mi σ3 H2 δ3 (match F δ3 with | .next δ2 => sForL B F (ds.drop (i + 1)) δ2 | .cont δ2 => sForL B F (ds.drop (i + 1)) δ2 | .brk δ2 => .next δ2 | r => r) E := RunS.go g3 q2
      cases ef : F δ3 with
      | next δ4 =>
        rw [ef] at q3
        exact fun σ' H' g4 => ⟨δ4, g.trans (gg.trans g4), RunS.go g4 q3⟩
      | cont δ4 =>
        rw [ef] at q3
        exact fun σ' H' g4 => ⟨δ4, g.trans (gg.trans g4), RunS.go g4 q3⟩
      | brk δ4 =>
        rw [ef] at q3
        exact fun σ' H' g4 => q3 σ' H' g4
      | ret c δ4 =>
        rw [ef] at q3
        cases c with
        | val d => exact q3
        | own d => exact q3
        | ref d => exact q3
        | exc _ _ _ => exact q3
      | err x δ4 =>
        rw [ef] at q3
        exact q3
      | bad =>
        rw [ef] at q3
        exact q3
  · have e : i = ds.length := by omega
    subst e
    rw [List.drop_length] at q
    exact .inl ⟨ps, RunS.nx (δ' := δ) g.rep q⟩
theorem ds_for {tg iter : Expr} {I : Fe (List D)} {sl : List Nat} {B : Bd} (hp : PassesOwn (model X.prog X.w) X.A X.env X.xe) (hc : X.calm = true) (hi : DI X W tg iter I) (hg : DG X tg sl B) (hb : DSs X W body F)
    (hs : ∀ x, foldedSetIterable iter X.env x = pure x := by intro _; rfl) : DS X W (.For tg iter body [] pos) (sFor I B F) :=
  PS.imp (ps_for hp hc hi hg hb hs) fun _ _ _ q => for_rd q
end
end Dl

set_option Elab.async false
set_option linter.all false
set_option maxRecDepth 100000
namespace Dl
open PySem PySem.Spec PyProof.Rows L2
variable [TabC]

/-! ### defs -/
/-- a call's result: what is handed back, what has become of what was lent -/
inductive RF where
  | ok (c : Cell) (outs : DEnv)
  | err (x : Exn) (outs : DEnv)
  | bad
/-- a def as a function of its arguments' data -/
abbrev Mir := List Cell → RF
def Cell.isArg : Cell → Bool
  | .val _ | .ref _ => true
  | _ => false
def outs : List Cell → DEnv → DEnv
  | .ref _ :: cs, c :: δ => c :: outs cs δ
  | _ :: cs, _ :: δ => none :: outs cs δ
  | _, _ => []
theorem outs_get : ∀ {cs : List Cell} {δ : DEnv} {i : Nat} {c : Cell}, (outs cs δ)[i]? = some (some c) → ∃ d, cs[i]? = some (.ref d) ∧ δ[i]? = some (some c)
  | [], _, i, c, h => by simp [outs] at h
  | c0 :: cs, [], i, c, h => by
    cases c0 <;> simp [outs] at h
  | c0 :: cs, x :: δ, 0, c, h => by
    cases c0 with
    | ref d => exact ⟨d, rfl, by simpa [outs] using h⟩
    | val d => simp [outs] at h
    | own d => simp [outs] at h
    | exc _ _ _ => simp [outs] at h
  | c0 :: cs, x :: δ, i + 1, c, h => by
    have h' : (outs cs δ)[i]? = some (some c) := by
      cases c0 <;> simpa [outs] using h
    obtain ⟨d, e1, e2⟩ := outs_get h'
    exact ⟨d, by simpa using e1, by simpa using e2⟩
theorem outs_ref : ∀ {cs : List Cell} {δ : DEnv} {i : Nat} {d : D} {c : Cell}, cs[i]? = some (.ref d) → δ[i]? = some (some c) → (outs cs δ)[i]? = some (some c)
  | [], _, i, d, c, h, _ => by simp at h
  | c0 :: cs, [], i, d, c, _, h => by simp at h
  | c0 :: cs, x :: δ, 0, d, c, h, g => by
    simp at h g
    subst h g
    simp [outs]
  | c0 :: cs, x :: δ, i + 1, d, c, h, g => by
    have r := outs_ref (cs := cs) (δ := δ) (i := i) (by simpa using h) (by simpa using g)
    cases c0 <;> simpa [outs] using r
theorem outs_len : ∀ (cs : List Cell) (δ : DEnv), (outs cs δ).length ≤ cs.length
  | [], _ => by simp [outs]
  | c0 :: cs, [] => by cases c0 <;> simp [outs]
  | c0 :: cs, x :: δ => by
    have := outs_len cs δ
    cases c0 <;> simp [outs] <;> omega

def ClsM (mg : Str → Option Value) (n : Str) (c : Value) : Prop := mg n = some c ∨ (mg n = none ∧ bootBuiltins n = some c)
/-- what a call by data promises -/
def spM (K : PySem.W.Frag) (mg : Str → Option Value) (m : Mir) : Sp := fun vs H Q E => ∃ (Mi : Msk) (cells : List Cell), cells.length = vs.length ∧ Rep K Mi (vs.map some) H (cells.map some) ∧ (∀ c ∈ cells, c.isArg = true) ∧
  match m cells with
  | .ok (.val d) o => ∀ v H', Go K Mi Mi (vs.map some) H (cells.map some) (vs.map some) H' o → Dat K Mi H' d v → Q v H'
  | .ok (.own d) o => ∀ a H', Go K Mi (plus Mi a) (vs.map some) H (cells.map some) (vs.map some) H' o → H a = none → Cont K (plus Mi a) H' a d → Q (.ref a) H'
  | .ok _ _ => False
  | .err x o => ∀ cls dd H', ClsM mg x.cls cls → Go K Mi Mi (vs.map some) H (cells.map some) (vs.map some) H' o → ExcD K Mi H' dd x → E cls dd H'
  | .bad => False
structure FnG (P : Program) (w : World) (K : PySem.W.Frag) (mg : Str → Option Value) (base : Heap) (k : Nat) (f : Addr) (fd : FuncData) (ps : List Str) (m : Mir) : Prop where
  bnd : Binds K fd ps []
  kp : PySem.W.keepIn K (.ref f) = true
  len : ∀ cells, m cells ≠ .bad → cells.length = ps.length
  run : ∀ (A : Around) (outer : List PySem.Env) (s : Shared) (H : Hp) (args : Args) (us : List Value) (vs : List V) (Q : VK) (E : XK), Room k A → A.guards = some [] → Env0 P w K mg base A outer s H → BindsTo s fd args (ps.zip us) → Vals vs us →
    spM K mg m vs H Q E → codeAny (model P w) A (.call (.ref f) args) (CR (L2.CX P w) outer P w H s Q E) s
theorem spM_len {K : PySem.W.Frag} {mg : Str → Option Value} {m : Mir} {n : Nat} (hl : ∀ cells, m cells ≠ .bad → cells.length = n) {vs : List V} {H : Hp} {Q : VK} {E : XK} (h : spM K mg m vs H Q E) : vs.length = n := by
  obtain ⟨Mi, cells, e, _, _, h⟩ := h
  rw [← e]
  refine hl cells fun z => ?_
  rw [z] at h
  exact h

/-- a def's mirror by its body -/
def runBody (n : Nat) (F : Fs) : Mir := fun cells =>
  match F (cells.map some ++ List.replicate (n - cells.length) none) with
  | .ret c δ => .ok c (outs cells δ)
  | .next δ => .ok (.val .none) (outs cells δ)
  | .err x δ => .err x (outs cells δ)
  | _ => .bad
/-- .. of a def of so many parameters -/
def mir (np n : Nat) (F : Fs) : Mir := fun cells => if cells.length = np then runBody n F cells else .bad

section
variable {K : PySem.W.Frag} {Mi Mo : Msk} {H H' : Hp}
theorem noOwn {vs : List V} {cells : List Cell} (ha : ∀ c ∈ cells, c.isArg = true) (a : Addr) : ¬ Owned (vs.map some) (cells.map some) a := fun ⟨i, d, e, _⟩ => by
  rw [List.getElem?_map] at e
  cases h : cells[i]? with
  | none =>
    rw [h] at e
    cases e
  | some c =>
    rw [h] at e
    cases e
    have := ha _ (List.mem_of_getElem? h)
    cases this
theorem get_start {N : List Str} {vs : List V} {i : Nat} (h : i < vs.length) : (L2.start N vs)[i]? = (vs.map some)[i]? := by
  unfold L2.start
  rw [List.getElem?_append_left (by simpa using h)]
theorem get_pad {cells : List Cell} {n i : Nat} {c : Cell} (h : (cells.map some ++ List.replicate n none)[i]? = some (some c)) : i < cells.length ∧ (cells.map some)[i]? = some (some c) := by
  by_cases hi : i < cells.length
  · rw [List.getElem?_append_left (by simpa using hi)] at h
    exact ⟨hi, h⟩
  · rw [List.getElem?_append_right (by simpa using Nat.le_of_not_lt hi), List.getElem?_replicate] at h
    split at h <;> cases h
/-- at the entry of a def -/
theorem Rep.start {N : List Str} {vs : List V} {cells : List Cell} {n : Nat} (hl : cells.length = vs.length) (hn : n = N.length) (hv : vs.length ≤ N.length) (R : Rep K Mi (vs.map some) H (cells.map some)) (ha : ∀ c ∈ cells, c.isArg = true) :
    Rep K Mi (L2.start N vs) H (cells.map some ++ List.replicate (n - cells.length) none) := by
  have own0 : ∀ a, ¬ Owned (L2.start N vs) (cells.map some ++ List.replicate (n - cells.length) none) a := fun a ⟨i, d, e, s⟩ => by
    obtain ⟨h1, h2⟩ := get_pad e
    rw [get_start (by omega)] at s
    exact noOwn ha a ⟨i, d, h2, s⟩
  have mk : msk Mi (L2.start N vs) (cells.map some ++ List.replicate (n - cells.length) none) = msk Mi (vs.map some) (cells.map some) := by
    funext a
    exact propext ⟨fun z => z.elim .inl fun z => absurd z (own0 a), fun z => z.elim .inl fun z => absurd z (noOwn ha a)⟩
  refine ⟨?_, fun i c e => ?_, fun i j c c' a ne e1 e2 m1 m2 s1 s2 => ?_, R.dom, fun p hp => (List.not_mem_nil hp).elim, R.tab⟩
  · unfold L2.start
    simp only [List.length_append, List.length_map, List.length_replicate]
    omega
  · obtain ⟨h1, h2⟩ := get_pad e
    obtain ⟨v, ev, r⟩ := R.cell i c h2
    refine ⟨v, ?_, ?_⟩
    · rw [get_start (by omega)]
      exact ev
    · rw [mk]
      exact r
  · obtain ⟨h1, h2⟩ := get_pad e1
    obtain ⟨h3, h4⟩ := get_pad e2
    rw [get_start (by omega)] at s1 s2
    exact R.sep i j c c' a ne h2 h4 m1 m2 s1 s2
/-- at a def's end: back to the arguments alone -/
theorem Go.leave {N : List Str} {vs : List V} {cells : List Cell} {n : Nat} {σ' : St} {δ' : DEnv} (hl : cells.length = vs.length) (hn : n = N.length) (hv : vs.length ≤ N.length) (ha : ∀ c ∈ cells, c.isArg = true)
    (g : Go K Mi Mo (L2.start N vs) H (cells.map some ++ List.replicate (n - cells.length) none) σ' H' δ') : Go K Mi Mo (vs.map some) H (cells.map some) (vs.map some) H' (outs cells δ') ∧ Mv (msk Mo σ' δ') H' Mo H' := by
  have own0 : ∀ a, ¬ Owned (L2.start N vs) (cells.map some ++ List.replicate (n - cells.length) none) a := fun a ⟨i, d, e, s⟩ => by
    obtain ⟨h1, h2⟩ := get_pad e
    rw [get_start (by omega)] at s
    exact noOwn ha a ⟨i, d, h2, s⟩
  have pad : ∀ {i : Nat} {d : D}, cells[i]? = some (Cell.ref d) → (cells.map some ++ List.replicate (n - cells.length) none)[i]? = some (some (Cell.ref d)) := fun {i d} e => by
    have hi := (List.getElem?_eq_some_iff.mp e).1
    rw [List.getElem?_append_left (by simpa using hi), List.getElem?_map, e]
    rfl
  -- what was lent lies where it lay
  have there : ∀ (i : Nat) (d : D), cells[i]? = some (Cell.ref d) → σ'[i]? = (vs.map some)[i]? ∧ ∃ d', δ'[i]? = some (some (Cell.ref d')) := fun i d e => by
    obtain ⟨q, r⟩ := g.lent i ⟨d, pad e⟩
    have hi := (List.getElem?_eq_some_iff.mp e).1
    rw [get_start (by omega)] at q
    exact ⟨q, r⟩
  have isR : ∀ {i : Nat} {c : Cell}, (outs cells δ')[i]? = some (some c) → ∃ d d', cells[i]? = some (Cell.ref d) ∧ c = Cell.ref d' ∧ δ'[i]? = some (some (Cell.ref d')) ∧ σ'[i]? = (vs.map some)[i]? := fun {i c} e => by
    obtain ⟨d, e1, e2⟩ := outs_get e
    obtain ⟨q, d', e3⟩ := there i d e1
    rw [e2] at e3
    cases e3
    exact ⟨d, d', e1, rfl, e2, q⟩
  have ownO : ∀ a, ¬ Owned (vs.map some) (outs cells δ') a := fun a ⟨i, d, e, _⟩ => by
    obtain ⟨_, _, _, z, _⟩ := isR e
    cases z
  have m : Mv (msk Mo σ' δ') H' (msk Mo (vs.map some) (outs cells δ')) H' := Mv.shrink fun a z => z.elim .inl fun z => absurd z (ownO a)
  refine ⟨⟨⟨?_, fun i c e => ?_, fun i j c c' a ne e1 e2 m1 m2 s1 s2 => ?_, g.rep.dom, fun p hp => (List.not_mem_nil hp).elim, g.rep.tab⟩, fun a o n1 n2 e nt => ?_, fun a z => absurd z (ownO a), fun i ⟨d, e⟩ => ?_, fun i ⟨d, e⟩ => ?_, g.trk⟩, Mv.shrink fun a z => .inl z⟩
  · have := outs_len cells δ'
    simp only [List.length_map]
    omega
  · obtain ⟨d, d', e1, rfl, e2, q⟩ := isR e
    obtain ⟨v, ev, a, rfl, ma, ct⟩ := g.rep.cell i _ e2
    exact ⟨_, by rw [← q]; exact ev, a, rfl, ma, ct.mv m rfl⟩
  · obtain ⟨_, d1, _, rfl, f1, q1⟩ := isR e1
    obtain ⟨_, d2, _, rfl, f2, q2⟩ := isR e2
    exact g.rep.sep i j _ _ a ne f1 f2 rfl rfl (by rw [q1]; exact s1) (by rw [q2]; exact s2)
  · refine g.stab a o (own0 a) (fun ⟨i, d, e1, s1⟩ => ?_) e nt
    obtain ⟨h1, h2⟩ := get_pad e1
    rw [get_start (by omega)] at s1
    exact n2 ⟨i, d, h2, s1⟩
  · rw [List.getElem?_map] at e
    cases h : cells[i]? with
    | none =>
      rw [h] at e
      cases e
    | some c =>
      rw [h] at e
      have ec : c = .ref d := Option.some.inj (Option.some.inj e)
      subst ec
      obtain ⟨q, d', r⟩ := there i d h
      exact ⟨rfl, d', outs_ref h r⟩
  · obtain ⟨d, d', e1, _, _, _⟩ := isR e
    refine ⟨d, ?_⟩
    rw [List.getElem?_map, e1]
    rfl
end

/-- THE RULE for a def: its body, by data -/
theorem fnG_of {P : Program} {w : World} {K : PySem.W.Frag} {mg : Str → Option Value} {base : Heap} {x qual : Str} {st : Stmt} {f : Addr} {fd : FuncData} {N ps : List Str} {k np n : Nat} {F : Fs} (Fn : Fun K x qual st f fd) (S : FnScope N ps (defScope st)) (hb : Binds K fd ps [])
    (hnp : np = ps.length) (hn : n = N.length)
    (hbody : ∀ (cdv : Value) (A : Around) (outer : List PySem.Env) (s : Shared) (H : Hp) (E : XK), Ok (cxOf (L2.CX P w) P w K mg base N qual (defScope st) f cdv A outer s H E) k →
      DSs (cxOf (L2.CX P w) P w K mg base N qual (defScope st) f cdv A outer s H E) (fun cls d _ H' => E cls d H') (defBody st) F) :
    FnG P w K mg base (k + 1) f fd ps (mir np n F) := by
  have hlen : ∀ cells, mir np n F cells ≠ .bad → cells.length = ps.length := fun cells h => by
    unfold mir at h
    split at h
    · rename_i e
      rw [e, hnp]
    · exact absurd rfl h
  refine ⟨hb, Fn.kp, hlen, fun A outer s H args us vs Q E hr hg e0 hbd r hsp => ?_⟩
  have hl := spM_len hlen hsp
  obtain ⟨oc, od, kV, doc, pm, an, cdv, ct, osl, rfl, lk, hcd⟩ := Fn.ex
  have KX : K.In s.heap := e0.mod.kin.keeps fun b o e => (e0.bs b o e).1
  have lim : s.heap.NoLimit := e0.mod.nolimit.keeps fun b o e => (e0.bs b o e).1
  have kinds : ∀ y ∈ ps.zip us, (defScope st).names.lookup y.1 = some .local ∨ ((defScope st).names.lookup y.1 = some .cell ∧ ((cellsFrom (s.heap.objs.size + 1) (defScope st).names []).lookup y.1).isSome = true) := fun y hy =>
    (S.par y.1 (List.of_mem_zip (a := y.1) (b := y.2) hy).1).elim .inl fun q => .inr ⟨q, PySem.W.cellsFrom_some _ _ _ (.inl q)⟩
  refine codeAny_call_function hr.depth (KX _ _ lk) rfl S.co S.gen rfl (PySem.W.codeRec_of KX hcd) (hbd _ _ _ _ ?_)
  refine wpAny_newFunctionEnv_cells S.kind kinds fun env he s1 x1 => ?_
  subst he
  refine ⟨lim.keeps x1.toInCall.keep, codeAny_func ?_⟩
  have ok : Ok (cxOf (L2.CX P w) P w K mg base N qual (defScope st) f cdv A outer s H E) k := ⟨hr.deeper _, hg⟩
  have body := hbody cdv A outer s H E ok
  have I : Inv (cxOf (L2.CX P w) P w K mg base N qual (defScope st) f cdv A outer s H E) [] (L2.start N vs) H s1 := inv_start S hr.hd e0 hl r x1
  obtain ⟨Mi, cells, hc, Rp, ha, q⟩ := hsp
  have hv : vs.length ≤ N.length := by
    have := congrArg List.length S.pre
    rw [List.length_take] at this
    omega
  have start_ : tS (cxOf (L2.CX P w) P w K mg base N qual (defScope st) f cdv A outer s H E) (fun cls d _ H' => E cls d H') F { nx := fun _ H' => Q .non H', rt := Q } (L2.start N vs) H := by
    refine ⟨Mi, _, Rep.start hc hn hv Rp ha, ?_⟩
    by_cases hc2 : cells.length = np
    · have em : mir np n F cells = runBody n F cells := by
        unfold mir
        rw [if_pos hc2]
      rw [em] at q
      unfold runBody at q
      cases ef : F (cells.map some ++ List.replicate (n - cells.length) none) with
      | next δ' =>
        rw [ef] at q
        exact fun σ' H' g => q .non H' (Go.leave hc hn hv ha g).1 Dat.mkNone
      | ret c δ' =>
        rw [ef] at q
        cases c with
        | val d => exact fun v σ' H' g dv => q v H' (Go.leave hc hn hv ha g).1 (Dat.mv (Go.leave hc hn hv ha g).2 dv)
        | own d =>
          refine fun a σ' H' g fr c => q a H' (Go.leave hc hn hv ha g).1 ?_ (c.mv (Go.leave hc hn hv ha g).2 rfl)
          rcases fr with ⟨i, d', e, s2⟩ | fr
          · obtain ⟨h1, h2⟩ := get_pad e
            rw [get_start (by omega)] at s2
            exact absurd ⟨i, d', h2, s2⟩ (noOwn ha a)
          · exact fr
        | ref d => exact q
        | exc _ _ _ => exact q
      | err x δ' =>
        rw [ef] at q
        exact fun cls dd σ' H' hcls g ex => q cls dd H' hcls (Go.leave hc hn hv ha g).1 (ex.mv (Go.leave hc hn hv ha g).2)
      | brk δ' =>
        rw [ef] at q
        exact q.elim
      | cont δ' =>
        rw [ef] at q
        exact q.elim
      | bad =>
        rw [ef] at q
        exact q.elim
    · have em : mir np n F cells = .bad := by
        unfold mir
        rw [if_neg hc2]
      rw [em] at q
      exact q.elim
  have fin : ∀ {σ' : St} {H' : Hp} {v : V} {u : Value} {s' : Shared}, Inv (cxOf (L2.CX P w) P w K mg base N qual (defScope st) f cdv A outer s H E) [] σ' H' s' → RelV v u → Q v H' → CE outer P w H s Q u s' :=
    fun {σ' H' v u s'} J rv qq => ⟨v, H', J.os, J.bare, J.base, J.hok, rv, qq⟩
  refine wpAny_mono (body.run [] s1 _ H _ I start_) (fun fl s' hs => ?_) fun _ _ hs => hs
  cases fl with
  | ret u =>
    obtain ⟨_, _, _, J, rv, qq⟩ := hs
    exact fin J rv qq
  | next =>
    obtain ⟨_, _, J, qq⟩ := hs
    exact fin (v := V.non) (u := Value.none) J rfl qq
  | brk =>
    obtain ⟨_, _, _, qq⟩ := hs
    exact False.elim qq
  | cont =>
    obtain ⟨_, _, _, qq⟩ := hs
    exact False.elim qq
end Dl

set_option Elab.async false
set_option linter.all false
set_option maxRecDepth 100000
namespace Dl
open PySem PySem.Spec PyProof.Rows L2
variable [Reg] [TabC]

section
variable {X : Cx} {W : WX} {Mi : Msk} {σ : St} {H H1 : Hp} {δ δ1 : DEnv}

/-! ### calls of defs -/
/-- an argument: a datum, or a slot that is lent -/
def pAp (X : Cx) (p i : Nat) : Rl (List D) (List V) := fun Mi ds σ δ H vs => ds.length = vs.length ∧ (∀ (k : Nat) (d : D) (v : V), k ≠ p → ds[k]? = some d → vs[k]? = some v → Dat X.K (msk Mi σ δ) H d v) ∧ ∀ v, vs[p]? = some v → σ[i]? = some (some v)
def DAp (X : Cx) (W : WX) (p i : Nat) (es : List Expr) (F : Fe (List D)) : Prop := PA X es (tG X W (pAp X p i) F)
/-- the slot is lent: it is an own container, or one lent itself -/
def lendable (δ : DEnv) (i : Nat) : Option D :=
  match δ[i]? with
  | some (some (.own d)) => some d
  | some (some (.ref d)) => some d
  | _ => none
theorem lend_cell {i : Nat} {d : D} (h : lendable δ i = some d) : δ[i]? = some (some (.own d)) ∨ δ[i]? = some (some (.ref d)) := by
  unfold lendable at h
  split at h
  · rename_i e
    cases h
    exact .inl e
  · rename_i e
    cases h
    exact .inr e
  · cases h
/-- the lent slot first -/
def apHead (i : Nat) (G : Fe (List D)) : Fe (List D) := fun δ =>
  match lendable δ i with
  | some _ => (G δ).bind fun ds δ1 => .ok (.none :: ds) δ1
  | none => .bad
theorem dap_head {i : Nat} {x : Str} {pos : Pos} {es : List Expr} {G : Fe (List D)} (hN : X.N[i]? = some x) (hv : Vis X.env.scope x) (t : DA X W es G) (hs : starEach (.Name x pos :: es) X.env = (false, eval (.Name x pos) X.env) :: starEach es X.env := by rfl)
    (hd : (x == ("__debug__" : Str)) = false := by decide +kernel) (hcd : (x == ("__classdict__" : Str)) = false := by decide +kernel) : DAp X W 0 i (.Name x pos :: es) (apHead i G) := by
  refine PA.imp (pa_cons (pe_var hN hv hd hcd) t hs) fun σ H Q ⟨Mi, δ, R, q⟩ => ?_
  unfold apHead at q
  cases e : lendable δ i with
  | none =>
    rw [e] at q
    exact q.elim
  | some d =>
    rw [e] at q
    have hv : ∃ v, σ[i]? = some (some v) := by
      rcases lend_cell e with c | c
      · obtain ⟨v, ev, _⟩ := R.cell i _ c
        exact ⟨v, ev⟩
      · obtain ⟨v, ev, _⟩ := R.cell i _ c
        exact ⟨v, ev⟩
    obtain ⟨v, ev⟩ := hv
    refine ⟨v, ev, Mi, δ, R, (RunG.bind (P := pA X) q).imp fun vs H1 ⟨ds, δ1, g, p, r⟩ => ?_⟩
    have p' : DatAll X.K (msk Mi σ δ1) H1 ds vs := p
    refine r (v :: vs) H1 (Go.refl g.rep) ⟨by rw [List.length_cons, List.length_cons, p'.length], fun k d u n e1 e2 => ?_, fun u e => ?_⟩
    · match k, n, e1, e2 with
      | 0, n, _, _ => exact absurd rfl n
      | k + 1, _, e1, e2 =>
        obtain ⟨w, ew, dw⟩ := p'.get (i := k) (by simpa using e1)
        have e2' : vs[k]? = some u := by simpa using e2
        rw [ew] at e2'
        cases e2'
        exact dw
    · have e' : v = u := Option.some.inj e
      rw [← e']
      exact ev
def apCons (F : Fe D) (G : Fe (List D)) : Fe (List D) := fun δ => (F δ).bind fun d δ1 => (G δ1).bind fun ds δ2 => .ok (d :: ds) δ2
/-- behind a call: what was lent -/
def unlend (i p : Nat) (o : DEnv) (δ : DEnv) : DEnv :=
  match o[p]?, δ[i]? with
  | some (some (.ref d)), some (some c) => δ.set i (some (upCell c d))
  | _, _ => δ
def cellRes : RF → DEnv → R Cell
  | .ok c _, δ => .ok c δ
  | .err x _, δ => .err x δ
  | .bad, _ => .bad
/-- a call's data: no argument is lent -/
def callV (m : Mir) (F : Fe (List D)) : Fe Cell := fun δ => (F δ).bind fun ds δ1 =>
  cellRes (m (ds.map .val)) δ1
def toVal : Cell → DEnv → R D
  | .val d, δ => .ok d δ
  | .own d, δ => .ok d δ
  | _, _ => .bad
def toOwn : Cell → DEnv → R D
  | .own d, δ => .ok d δ
  | _, _ => .bad
/-- one call, by what must hold of each end -/
theorem FnG.call {k : Nat} {f : Addr} {fd : FuncData} {ps : List Str} {m : Mir} {x : Str} {p pos : Pos} {e : Expr} {es : List Expr} {ta : TA} (F : FnG X.prog X.w X.K X.mg X.base k f fd ps m) (ok : Ok X k) (tk : Takes X W) (hg : Gl X x) (hm : X.mg x = some (.ref f)) (ha : PA X (e :: es) ta)
    (hdb : (x == ("__debug__" : Str)) = false := by decide +kernel) (he : starEach (e :: es) X.env = (false, eval e X.env) :: starEach es X.env := by rfl) (hpl : (backTo pos (starEach es X.env)).any (·.1) = false := by rfl) :
    PE X (.Call (.Name x p) (e :: es) [] pos) fun σ H Q => ta σ H fun vs H1 => spM X.K X.mg m vs H1 Q (WE W σ) := by
  refine ⟨fun pins s σ H Q I h => ?_⟩
  refine wpAny_Call_Name_kw (ld_glob I hg hm ?_ hdb)
  refine PySem.W.callWith_K (h₀ := X.base) I.ok.mod.kin F.kp (thn (ha.run pos pins s σ H _ I h) fun us s1 ⟨vs, H1, I1, r, q⟩ => ⟨I1.kIn, ?_⟩) he hpl
  have hl : us.length = ps.length := by rw [← r.length]; exact spM_len F.len q
  have b := F.bnd s1 us I1.kIn (by rw [List.append_nil]; exact hl)
  rw [List.append_nil] at b
  refine wpAny_call (codeAny_mono (F.run X.A X.stack s1 H1 ⟨us, []⟩ us vs Q (WE W σ) ok.room ok.gd I1.env0 b r q) fun rr s' hq => ?_)
  cases rr with
  | error e => exact passAt tk σ pins H1 s1 e s' I1 hq
  | ok fl =>
    cases fl with
    | ret u => exact I1.after hq
    | next => exact False.elim hq
    | brk => exact False.elim hq
    | cont => exact False.elim hq
/-! objects are only added, tables may grow -/
structure Gr (H H' : Hp) : Prop where
  al : ∀ a o, H a = some o → NT o → H' a = some o
  tab : NdefX.TabsN TabC.T H'
  trk : ∀ a, H' a = none → H a = none
theorem Gr.mv {M : Msk} {H H' : Hp} (a : Gr H H') : Mv M H M H' := fun x o n e nt => ⟨n, a.al x o e nt⟩
theorem cont_nt {K : PySem.W.Frag} {M : Msk} {H : Hp} {a : Addr} {d : D} (h : Cont K M H a d) : ∃ u, H a = some u ∧ NT u := by
  obtain ⟨u, e, h⟩ := cont_kind h
  refine ⟨u, e, ?_⟩
  rcases h with ⟨_, rfl⟩ | ⟨_, rfl⟩ | ⟨_, rfl⟩
  · exact nt_lst
  · exact nt_dK
  · exact nt_dT
theorem Go.gr {K : PySem.W.Frag} {H' : Hp} (R : Rep K Mi σ H δ) (a : Gr H H') : Go K Mi Mi σ H δ σ H' δ := by
  refine ⟨⟨R.len, fun i c e => ?_, R.sep, fun x hx q => R.dom x hx (a.trk x q), R.pin, a.tab⟩, fun x o _ _ e nt => a.al x o e nt, fun _ h => .inl h, fun _ h => ⟨rfl, h⟩, fun _ h => h, a.trk⟩
  obtain ⟨v, e1, r⟩ := R.cell i c e
  refine ⟨v, e1, ?_⟩
  cases c with
  | val d => exact Dat.mv a.mv r
  | own d =>
    obtain ⟨b, e2, n, q⟩ := r
    obtain ⟨o, eo, nt⟩ := cont_nt q
    exact ⟨b, e2, n, q.mv a.mv ((a.al b o eo nt).trans eo.symm)⟩
  | ref d =>
    obtain ⟨b, e2, n, q⟩ := r
    obtain ⟨o, eo, nt⟩ := cont_nt q
    exact ⟨b, e2, n, q.mv a.mv ((a.al b o eo nt).trans eo.symm)⟩
  | exc b dd x => exact ExcR.mv a.mv r
/-! #### the data of a call -/
theorem repV {ds : List D} {vs : List V} (R : Rep X.K Mi σ H δ) (p : DatAll X.K (msk Mi σ δ) H ds vs) : Rep0 X.K (msk Mi σ δ) (vs.map some) H ((ds.map Cell.val).map some) := by
  have own0 : ∀ a, ¬ Owned (vs.map some) ((ds.map Cell.val).map some) a := fun a ⟨i, d, e, _⟩ => by
    rw [List.getElem?_map, List.getElem?_map] at e
    cases h : ds[i]? with
    | none =>
      rw [h] at e
      cases e
    | some c =>
      rw [h] at e
      cases e
  have m : Mv (msk Mi σ δ) H (msk (msk Mi σ δ) (vs.map some) ((ds.map Cell.val).map some)) H := Mv.shrink fun a z => z.elim id fun z => absurd z (own0 a)
  refine r0_mk (by simp [p.length]) (fun i c e => ?_) (fun i j c c' a ne e1 e2 m1 m2 => ?_) (fun a z => R.dom' z) R.tab
  · rw [List.getElem?_map, List.getElem?_map] at e
    cases h : ds[i]? with
    | none =>
      rw [h] at e
      cases e
    | some d =>
      rw [h] at e
      cases e
      obtain ⟨v, ev, dv⟩ := p.get h
      refine ⟨v, ?_, Dat.mv m dv⟩
      rw [List.getElem?_map, ev]
      rfl
  · rw [List.getElem?_map, List.getElem?_map] at e1
    cases h : ds[i]? with
    | none =>
      rw [h] at e1
      cases e1
    | some d =>
      rw [h] at e1
      cases e1
      cases m1
theorem goV {Mo : Msk} {ds : List D} {vs : List V} {o : DEnv} {H' : Hp} (R : Rep X.K Mi σ H δ) (p : DatAll X.K (msk Mi σ δ) H ds vs) (g : Go0 X.K (msk Mi σ δ) Mo (vs.map some) H ((ds.map Cell.val).map some) (vs.map some) H' o) : Gr H H' := by
  have own0 : ∀ a, ¬ Owned (vs.map some) ((ds.map Cell.val).map some) a := fun a ⟨i, d, e, _⟩ => by
    rw [List.getElem?_map, List.getElem?_map] at e
    cases h : ds[i]? with
    | none =>
      rw [h] at e
      cases e
    | some c =>
      rw [h] at e
      cases e
  have lent0 : ∀ a, ¬ Lent (vs.map some) ((ds.map Cell.val).map some) a := fun a ⟨i, d, e, _⟩ => by
    rw [List.getElem?_map, List.getElem?_map] at e
    cases h : ds[i]? with
    | none =>
      rw [h] at e
      cases e
    | some c =>
      rw [h] at e
      cases e
  exact ⟨fun a u e nt => g0_stab g a u (own0 a) (lent0 a) e nt, r0_tab (g0_rep g), g0_trk g⟩
theorem argV (ds : List D) : ∀ c ∈ ds.map Cell.val, c.isArg = true := fun c h => by
  obtain ⟨d, _, rfl⟩ := List.mem_map.mp h
  rfl
/-- Go where objects are only added, and one of them is nobody's -/
theorem Go.alNew {K : PySem.W.Frag} {H' : Hp} {a : Addr} (R : Rep K Mi σ H δ) (al : Gr H H') (n : H a = none) (there : H' a ≠ none) : Go K Mi (plus Mi a) σ H δ σ H' δ := by
  have g := Go.gr R al
  have m : Mv (msk Mi σ δ) H (msk (plus Mi a) σ δ) H' := fun b u q e nt => ⟨fun z => by
    rcases z with (z | z) | z
    · exact q (.inl z)
    · subst z
      rw [n] at e
      cases e
    · exact q (.inr z), al.al b u e nt⟩
  refine ⟨⟨R.len, fun i c e => ?_, R.sep, fun b z => ?_, R.pin, al.tab⟩, g.stab, g.own, g.lent, g.lentB, g.trk⟩
  · obtain ⟨v, e1, r⟩ := R.cell i c e
    refine ⟨v, e1, r.mv m (fun b u _ _ eu z y => y.elim z fun w => ?_) (fun b _ z _ => .inl z) fun b hm ev => ?_⟩
    · subst w
      rw [n] at eu
      cases eu
    · have : ∃ u, H b = some u ∧ NT u := by
        cases c with
        | val d => cases hm
        | own d =>
          obtain ⟨b2, e2, _, q⟩ := r
          rw [ev] at e2
          cases e2
          exact cont_nt q
        | ref d =>
          obtain ⟨b2, e2, _, q⟩ := r
          rw [ev] at e2
          cases e2
          exact cont_nt q
        | exc _ _ _ => cases hm
      obtain ⟨u, eu, nt⟩ := this
      rw [al.al b u eu nt, eu]
  · rcases z with z | z
    · intro q
      exact R.dom b z (al.trk b q)
    · subst z
      exact there
theorem callV_spM {m : Mir} {ds : List D} {vs : List V} {Q : VK} (R : Rep X.K Mi σ H δ) (p : DatAll X.K (msk Mi σ δ) H ds vs)
    (h : RunG X W (pD X) Mi σ H δ ((cellRes (m (ds.map .val)) δ).bind toVal) Q) : spM X.K X.mg m vs H Q (WE W σ) := by
  refine ⟨msk Mi σ δ, ds.map .val, by rw [List.length_map, p.length], repV R p, argV ds, ?_⟩
  cases e : m (ds.map .val) with
  | ok c o =>
    rw [e] at h
    cases c with
    | val d => exact fun v H' g dv => h v H' (Go.gr R (goV R p g)) dv
    | own d =>
      have h' : RunG X W (pD X) Mi σ H δ (.ok d δ) Q := h
      refine fun a H' g n c => h' _ H' (Go.gr R (goV R p g)) ?_
      have m2 : Mv (plus (msk Mi σ δ) a) H' (msk Mi σ δ) H' := Mv.shrink fun b z => .inl z
      exact (c.mv m2 rfl).dat fun z => R.dom' z n
    | ref d => exact h.elim
    | exc _ _ _ => exact h.elim
  | err x o =>
    rw [e] at h
    exact fun cls dd H' hc g ex => h cls dd σ H' hc (Go.gr R (goV R p g)) ex
  | bad =>
    rw [e] at h
    exact h.elim
theorem callV_spN {m : Mir} {ds : List D} {vs : List V} {Q : VK} (R : Rep X.K Mi σ H δ) (p : DatAll X.K (msk Mi σ δ) H ds vs)
    (h : RunN X W Mi σ H δ ((cellRes (m (ds.map .val)) δ).bind toOwn) Q) : spM X.K X.mg m vs H Q (WE W σ) := by
  refine ⟨msk Mi σ δ, ds.map .val, by rw [List.length_map, p.length], repV R p, argV ds, ?_⟩
  cases e : m (ds.map .val) with
  | ok c o =>
    rw [e] at h
    cases c with
    | val d => exact h.elim
    | own d =>
      have h' : RunN X W Mi σ H δ (.ok d δ) Q := h
      refine fun a H' g n c => h' a H' (Go.alNew R (goV R p g) n ?_) n ?_
      · obtain ⟨o, eo⟩ := c.some
        rw [eo]
        exact Option.some_ne_none _
      · exact c.mv (Mv.shrink fun b z => z.elim (fun z => z.elim (fun z => .inl (.inl z)) .inr) fun z => .inl (.inr z)) rfl
    | ref d => exact h.elim
    | exc _ _ _ => exact h.elim
  | err x o =>
    rw [e] at h
    exact fun cls dd H' hc g ex => h cls dd σ H' hc (Go.gr R (goV R p g)) ex
  | bad =>
    rw [e] at h
    exact h.elim
def fV (m : Mir) (F : Fe (List D)) : Fe D := fun δ => (callV m F δ).bind toVal
def fVO (m : Mir) (F : Fe (List D)) : Fe D := fun δ => (callV m F δ).bind toOwn
theorem fV_eq (m : Mir) (F : Fe (List D)) (g : Cell → DEnv → R D) : (fun δ => (callV m F δ).bind g) = fun δ => (F δ).bind fun ds δ1 => (cellRes (m (ds.map .val)) δ1).bind g := by
  funext δ
  unfold callV
  rw [R.bind_assoc]
variable {k : Nat} {f : Addr} {fd : FuncData} {ps : List Str} {m : Mir} {x : Str} {p pos : Pos} {e : Expr} {es : List Expr} {F : Fe (List D)}
theorem de_call (Fn : FnG X.prog X.w X.K X.mg X.base k f fd ps m) (ok : Ok X k) (tk : Takes X W) (hg : Gl X x) (hm : X.mg x = some (.ref f)) (ha : DA X W (e :: es) F)
    (hdb : (x == ("__debug__" : Str)) = false := by decide +kernel) (he : starEach (e :: es) X.env = (false, eval e X.env) :: starEach es X.env := by rfl) (hpl : (backTo pos (starEach es X.env)).any (·.1) = false := by rfl) :
    DE X W (.Call (.Name x p) (e :: es) [] pos) (fV m F) := by
  refine PE.imp (Fn.call (W := W) ok tk hg hm ha hdb he hpl) fun σ H Q q => ?_
  unfold fV at q
  rw [fV_eq] at q
  obtain ⟨Mi, δ, R, q⟩ := tG_bind (P := pA X) q
  exact ⟨Mi, δ, R, q.imp fun vs H1 ⟨Mi, ds, δ1, R1, p, r⟩ => callV_spM R1 p r⟩
theorem do_call (Fn : FnG X.prog X.w X.K X.mg X.base k f fd ps m) (ok : Ok X k) (tk : Takes X W) (hg : Gl X x) (hm : X.mg x = some (.ref f)) (ha : DA X W (e :: es) F)
    (hdb : (x == ("__debug__" : Str)) = false := by decide +kernel) (he : starEach (e :: es) X.env = (false, eval e X.env) :: starEach es X.env := by rfl) (hpl : (backTo pos (starEach es X.env)).any (·.1) = false := by rfl) :
    DO X W (.Call (.Name x p) (e :: es) [] pos) (fVO m F) := by
  refine PE.imp (Fn.call (W := W) ok tk hg hm ha hdb he hpl) fun σ H Q q => ?_
  unfold fVO at q
  rw [fV_eq] at q
  obtain ⟨Mi, δ, R, q⟩ := tN_bind (P := pA X) q
  exact ⟨Mi, δ, R, q.imp fun vs H1 ⟨Mi, ds, δ1, R1, p, r⟩ => callV_spN R1 p r⟩

/-! #### one argument is lent -/
theorem lend_at {i : Nat} {d : D} {v : V} (R : Rep X.K Mi σ H δ) (h : lendable δ i = some d) (s : σ[i]? = some (some v)) : ∃ a, v = .ref a ∧ msk Mi σ δ a ∧ Cont X.K (msk Mi σ δ) H a d := by
  rcases lend_cell h with c | c
  · obtain ⟨u, eu, a, rfl, n, ct⟩ := R.cell i _ c
    rw [s] at eu
    cases eu
    exact ⟨a, rfl, .inr ⟨i, d, c, s⟩, ct⟩
  · obtain ⟨u, eu, a, rfl, n, ct⟩ := R.cell i _ c
    rw [s] at eu
    cases eu
    exact ⟨a, rfl, .inl n, ct⟩
theorem set_val {ds : List D} {p j : Nat} {c : Cell} {d0 : D} (e : ((((ds.map Cell.val).set p (.ref d0)).map some) : DEnv)[j]? = some (some c)) : (j = p ∧ c = .ref d0 ∧ p < ds.length) ∨ (j ≠ p ∧ ∃ d, ds[j]? = some d ∧ c = .val d) := by
  rw [List.getElem?_map] at e
  cases h : ((ds.map Cell.val).set p (.ref d0))[j]? with
  | none =>
    rw [h] at e
    cases e
  | some c' =>
    rw [h] at e
    have ec : c' = c := Option.some.inj (Option.some.inj e)
    subst ec
    rcases get_set_some h with ⟨rfl, rfl, hl⟩ | ⟨n, z⟩
    · exact .inl ⟨rfl, rfl, by simpa using hl⟩
    · rw [List.getElem?_map] at z
      cases hd : ds[j]? with
      | none =>
        rw [hd] at z
        cases z
      | some d =>
        rw [hd] at z
        exact .inr ⟨n, d, rfl, (Option.some.inj z).symm⟩
theorem repR {i p : Nat} {d0 : D} {ds : List D} {vs : List V} (R : Rep X.K Mi σ H δ) (h : lendable δ i = some d0) (hp : pAp X p i Mi ds σ δ H vs) : Rep0 X.K (msk Mi σ δ) (vs.map some) H (((ds.map Cell.val).set p (.ref d0)).map some) := by
  obtain ⟨hl, hv, hr⟩ := hp
  have own0 : ∀ a, ¬ Owned (vs.map some) (((ds.map Cell.val).set p (.ref d0)).map some) a := fun a ⟨j, d, e, _⟩ => by
    rcases set_val e with ⟨_, z, _⟩ | ⟨_, _, _, z⟩ <;> cases z
  have m : Mv (msk Mi σ δ) H (msk (msk Mi σ δ) (vs.map some) (((ds.map Cell.val).set p (.ref d0)).map some)) H := Mv.shrink fun a z => z.elim id fun z => absurd z (own0 a)
  have vat : ∀ (j : Nat), j < ds.length → ∃ v, vs[j]? = some v := fun j hj => ⟨_, List.getElem?_eq_getElem (by omega)⟩
  refine r0_mk (by simp [hl]) (fun j c e => ?_) (fun j k c c' a ne e1 e2 m1 m2 => ?_) (fun a z => R.dom' z) R.tab
  · rcases set_val e with ⟨rfl, rfl, hlt⟩ | ⟨n, d, ed, rfl⟩
    · obtain ⟨v, ev⟩ := vat _ hlt
      obtain ⟨a, rfl, ma, ct⟩ := lend_at R h (hr v ev)
      refine ⟨_, by rw [List.getElem?_map, ev]; rfl, a, rfl, ma, ct.mv m rfl⟩
    · obtain ⟨v, ev⟩ := vat j (List.getElem?_eq_some_iff.mp ed).1
      exact ⟨v, by rw [List.getElem?_map, ev]; rfl, Dat.mv m (hv j d v n ed ev)⟩
  · rcases set_val e1 with ⟨r1, _, _⟩ | ⟨_, _, _, z⟩
    · rcases set_val e2 with ⟨r2, _, _⟩ | ⟨_, _, _, z⟩
      · exact absurd (r1.trans r2.symm) ne
      · subst z
        cases m2
    · subst z
      cases m1
theorem argR (ds : List D) (p : Nat) (d0 : D) : ∀ c ∈ (ds.map Cell.val).set p (.ref d0), c.isArg = true := fun c h => by
  rcases List.mem_or_eq_of_mem_set h with h | rfl
  · exact argV ds c h
  · rfl
/-- behind the call, in the caller's frame -/
theorem goR {Mo Mo' : Msk} {i p : Nat} {d0 : D} {ds : List D} {vs : List V} {o : DEnv} {H' : Hp} (R : Rep X.K Mi σ H δ) (h : lendable δ i = some d0) (hpl : p < ds.length) (hp : pAp X p i Mi ds σ δ H vs)
    (g : Go0 X.K (msk Mi σ δ) Mo' (vs.map some) H (((ds.map Cell.val).set p (.ref d0)).map some) (vs.map some) H' o) (hM : (Mo = Mi ∧ Mo' = msk Mi σ δ) ∨ ∃ a, Mo = plus Mi a ∧ Mo' = plus (msk Mi σ δ) a ∧ H a = none ∧ H' a ≠ none) :
    Go X.K Mi Mo σ H δ σ H' (unlend i p o δ) ∧ msk Mo σ (unlend i p o δ) = Mo' := by
  obtain ⟨hl, hv, hr⟩ := hp
  have own0 : ∀ a, ¬ Owned (vs.map some) (((ds.map Cell.val).set p (.ref d0)).map some) a := fun a ⟨j, d, e, _⟩ => by
    rcases set_val e with ⟨_, z, _⟩ | ⟨_, _, _, z⟩ <;> cases z
  obtain ⟨v, ev⟩ : ∃ v, vs[p]? = some v := ⟨_, List.getElem?_eq_getElem (by omega)⟩
  have sv := hr v ev
  obtain ⟨b, rfl, mb, ct⟩ := lend_at R h sv
  have hcp : ((((ds.map Cell.val).set p (.ref d0)).map some) : DEnv)[p]? = some (some (.ref d0)) := by
    rw [List.getElem?_map, List.getElem?_set_self (by simpa using hpl)]
    rfl
  have lentIs : ∀ a, Lent (vs.map some) (((ds.map Cell.val).set p (.ref d0)).map some) a → a = b := fun a ⟨j, d, e, s⟩ => by
    rcases set_val e with ⟨rfl, _, _⟩ | ⟨_, _, _, z⟩
    · rw [List.getElem?_map, ev] at s
      exact (V.ref.inj (Option.some.inj (Option.some.inj s))).symm
    · cases z
  have keep : ∀ a u, a ≠ b → H a = some u → NT u → H' a = some u := fun a u n e nt => g0_stab g a u (own0 a) (fun z => n (lentIs a z)) e nt
  -- the lent one afterwards
  obtain ⟨_, d', eo⟩ := g0_lent g p ⟨d0, hcp⟩
  obtain ⟨v2, ev2, b2, e2, mb2, ct2⟩ := r0_cell (g0_rep g) p _ eo
  have ev2' : some (V.ref b) = some v2 := by
    rw [List.getElem?_map, ev] at ev2
    exact Option.some.inj ev2
  subst e2
  cases ev2'
  obtain ⟨c, ec, hc⟩ : ∃ c, δ[i]? = some (some c) ∧ (c = .own d0 ∨ c = .ref d0) := by
    rcases lend_cell h with z | z
    · exact ⟨_, z, .inl rfl⟩
    · exact ⟨_, z, .inr rfl⟩
  have eδ : unlend i p o δ = δ.set i (some (upCell c d')) := by
    unfold unlend
    rw [eo, ec]
  rw [eδ]
  have hi : i < δ.length := (List.getElem?_eq_some_iff.mp ec).1
  have hm : c.isMut = true := by
    rcases hc with z | z <;> (subst z; rfl)
  have own_ : ∀ a, Owned σ (δ.set i (some (upCell c d'))) a ↔ Owned σ δ a := fun a => by
    constructor
    · rintro ⟨j, d2, e1, e2⟩
      rcases get_set_some e1 with ⟨rfl, z, _⟩ | ⟨ne, z⟩
      · rcases hc with y | y
        · subst y
          exact ⟨_, d0, ec, e2⟩
        · subst y
          cases z
      · exact ⟨j, d2, z, e2⟩
    · rintro ⟨j, d2, e1, e2⟩
      by_cases q : j = i
      · subst q
        rw [ec] at e1
        cases e1
        exact ⟨j, d', List.getElem?_set_self hi, e2⟩
      · refine ⟨j, d2, ?_, e2⟩
        rw [List.getElem?_set_ne (Ne.symm q)]
        exact e1
  have mk : msk Mo σ (δ.set i (some (upCell c d'))) = Mo' := by
    funext a
    refine propext ?_
    rcases hM with ⟨rfl, rfl⟩ | ⟨q, rfl, rfl, _, _⟩
    · exact ⟨fun z => z.elim .inl fun z => .inr ((own_ a).mp z), fun z => z.elim .inl fun z => .inr ((own_ a).mpr z)⟩
    · constructor
      · rintro ((z | z) | z)
        · exact .inl (.inl z)
        · exact .inr z
        · exact .inl (.inr ((own_ a).mp z))
      · rintro ((z | z) | z)
        · exact .inl (.inl z)
        · exact .inr ((own_ a).mpr z)
        · exact .inl (.inr z)
  have sub1 : ∀ a u, H a = some u → ¬ msk Mi σ δ a → ¬ Mo' a := fun a u e n => by
    rcases hM with ⟨rfl, rfl⟩ | ⟨q, rfl, rfl, z, _⟩
    · exact n
    · rintro (y | y)
      · exact n y
      · rw [y, z] at e
        cases e
  have sub2 : ∀ a u, H a = some u → ¬ Mi a → ¬ Mo a := fun a u e n => by
    rcases hM with ⟨rfl, rfl⟩ | ⟨q, rfl, rfl, z, _⟩
    · exact n
    · rintro (y | y)
      · exact n y
      · rw [y, z] at e
        cases e
  have sub3 : ∀ a, Mi a → Mo a := fun a z => by
    rcases hM with ⟨rfl, rfl⟩ | ⟨q, rfl, rfl, _, _⟩
    · exact z
    · exact .inl z
  have mv1 : Mv (msk Mi σ δ) H Mo' H' := fun a u n e nt => ⟨sub1 a u e n, keep a u (fun z => n (z ▸ mb)) e nt⟩
  have isOwn : Owned σ δ b ∨ Lent σ δ b := by
    rcases hc with z | z
    · subst z
      exact .inl ⟨i, d0, ec, sv⟩
    · subst z
      exact .inr ⟨i, d0, ec, sv⟩
  have trb : ∃ u, H b = some u := ct.some
  have ctb : Cont X.K Mo' H' b d' := ct2.mv (Mv.shrink fun a z => .inl z) rfl
  refine ⟨⟨⟨by rw [List.length_set]; exact R.len, fun j c' e' => ?_, fun j k c1 c2 a ne e1 e2 m1 m2 s1 s2 => ?_, fun a z q => ?_, fun q hq => ⟨(R.pin q hq).1, pin_up (R.pin q hq).2 ec hc⟩, r0_tab (g0_rep g)⟩, fun a u n1 n2 q nt => ?_, fun a z => .inl ((own_ a).mp z), fun j ⟨d2, q⟩ => ?_, fun j ⟨d2, q⟩ => ?_, g0_trk g⟩, mk⟩
  · rw [mk]
    rcases get_set_some e' with ⟨rfl, z, _⟩ | ⟨ne, z⟩
    · refine ⟨.ref b, sv, ?_⟩
      obtain ⟨u, eu, r⟩ := R.cell j c ec
      rw [sv] at eu
      cases eu
      obtain ⟨w, ew⟩ := trb
      rcases hc with y | y
      · subst y
        cases z
        obtain ⟨a, ea, na, _⟩ := r
        cases ea
        exact ⟨b, rfl, sub2 b w ew na, ctb⟩
      · subst y
        cases z
        obtain ⟨a, ea, na, _⟩ := r
        cases ea
        exact ⟨b, rfl, sub3 b na, ctb⟩
    · obtain ⟨u, eu, r⟩ := R.cell j c' z
      have far : ∀ a, c'.isMut = true → u = .ref a → a ≠ b := fun a hm' ev q => by
        subst ev
        subst q
        exact R.sep j i c' c a ne z ec hm' hm eu sv
      refine ⟨u, eu, r.mv mv1 (fun a o2 _ _ eo2 n => sub2 a o2 eo2 n) (fun a _ n _ => sub3 a n) fun a hm' ev => ?_⟩
      have : ∃ w, H a = some w ∧ NT w := by
        cases c' with
        | val d => cases hm'
        | own d =>
          obtain ⟨b2, e2, _, q⟩ := r
          rw [ev] at e2
          cases e2
          exact cont_nt q
        | ref d =>
          obtain ⟨b2, e2, _, q⟩ := r
          rw [ev] at e2
          cases e2
          exact cont_nt q
        | exc _ _ _ => cases hm'
      obtain ⟨w, ew, nt⟩ := this
      rw [keep a w (far a hm' ev) ew nt, ew]
  · have back : ∀ {j : Nat} {c1 : Cell}, (δ.set i (some (upCell c d')))[j]? = some (some c1) → c1.isMut = true → ∃ c0 : Cell, δ[j]? = some (some c0) ∧ c0.isMut = true := fun {j c1} q mq => by
      rcases get_set_some q with ⟨rfl, z, _⟩ | ⟨_, z⟩
      · exact ⟨c, ec, hm⟩
      · exact ⟨c1, z, mq⟩
    obtain ⟨c3, q3, m3⟩ := back e1 m1
    obtain ⟨c4, q4, m4⟩ := back e2 m2
    exact R.sep j k c3 c4 a ne q3 q4 m3 m4 s1 s2
  · rcases hM with ⟨rfl, rfl⟩ | ⟨q2, rfl, rfl, _, z2⟩
    · exact R.dom a z (g0_trk g a q)
    · rcases z with z | z
      · exact R.dom a z (g0_trk g a q)
      · rw [z] at q
        exact z2 q
  · exact keep a u (fun z => isOwn.elim (fun y => n1 (by rw [z]; exact y)) fun y => n2 (by rw [z]; exact y)) q nt
  · refine ⟨rfl, ?_⟩
    by_cases z : j = i
    · subst z
      rw [ec] at q
      cases q
      exact ⟨d', List.getElem?_set_self hi⟩
    · refine ⟨d2, ?_⟩
      rw [List.getElem?_set_ne (Ne.symm z)]
      exact q
  · rcases get_set_some q with ⟨rfl, z, _⟩ | ⟨_, z⟩
    · rcases hc with y | y
      · subst y
        cases z
      · subst y
        exact ⟨d0, ec⟩
    · exact ⟨d2, z⟩
def cellResR (i p : Nat) : RF → DEnv → R Cell
  | .ok c o, δ => .ok c (unlend i p o δ)
  | .err x o, δ => .err x (unlend i p o δ)
  | .bad, _ => .bad
theorem callR_spM {m : Mir} {i p : Nat} {d0 : D} {ds : List D} {vs : List V} {Q : VK} (R : Rep X.K Mi σ H δ) (hl : lendable δ i = some d0) (hpl : p < ds.length) (hp : pAp X p i Mi ds σ δ H vs)
    (h : RunG X W (pD X) Mi σ H δ ((cellResR i p (m ((ds.map Cell.val).set p (.ref d0))) δ).bind toVal) Q) : spM X.K X.mg m vs H Q (WE W σ) := by
  refine ⟨msk Mi σ δ, (ds.map .val).set p (.ref d0), by rw [List.length_set, List.length_map, hp.1], repR R hl hp, argR ds p d0, ?_⟩
  cases e : m ((ds.map .val).set p (.ref d0)) with
  | ok c o =>
    rw [e] at h
    cases c with
    | val d =>
      refine fun v H' g dv => ?_
      obtain ⟨g2, mk⟩ := goR (Mo := Mi) R hl hpl hp g (.inl ⟨rfl, rfl⟩)
      exact h v H' g2 (by rw [← mk] at dv; exact dv)
    | own d =>
      have h' : RunG X W (pD X) Mi σ H δ (.ok d (unlend i p o δ)) Q := h
      refine fun a H' g n c => ?_
      obtain ⟨u, eu⟩ := c.some
      obtain ⟨g2, mk⟩ := goR (Mo := plus Mi a) R hl hpl hp g (.inr ⟨a, rfl, rfl, n, by rw [eu]; exact Option.some_ne_none _⟩)
      refine h' _ H' (g2.drop R n) (g2.given R n ?_)
      rw [mk]
      exact c
    | ref d => exact h.elim
    | exc _ _ _ => exact h.elim
  | err x o =>
    rw [e] at h
    refine fun cls dd H' hc g ex => ?_
    obtain ⟨g2, mk⟩ := goR (Mo := Mi) R hl hpl hp g (.inl ⟨rfl, rfl⟩)
    exact h cls dd σ H' hc g2 (by rw [mk]; exact ex)
  | bad =>
    rw [e] at h
    exact h.elim
/-- a call with a lent slot: i, at the place p -/
def fR (m : Mir) (p i : Nat) (g : Cell → DEnv → R D) (F : Fe (List D)) : Fe D := fun δ => (F δ).bind fun ds δ1 =>
  match lendable δ1 i with
  | some d => if p < ds.length then (cellResR i p (m ((ds.map Cell.val).set p (.ref d))) δ1).bind g else .bad
  | none => .bad
theorem de_callR {i q : Nat} (Fn : FnG X.prog X.w X.K X.mg X.base k f fd ps m) (ok : Ok X k) (tk : Takes X W) (hg : Gl X x) (hm : X.mg x = some (.ref f)) (ha : DAp X W q i (e :: es) F)
    (hdb : (x == ("__debug__" : Str)) = false := by decide +kernel) (he : starEach (e :: es) X.env = (false, eval e X.env) :: starEach es X.env := by rfl) (hpl : (backTo pos (starEach es X.env)).any (·.1) = false := by rfl) :
    DE X W (.Call (.Name x p) (e :: es) [] pos) (fR m q i toVal F) := by
  refine PE.imp (Fn.call (W := W) ok tk hg hm ha hdb he hpl) fun σ H Q qq => ?_
  obtain ⟨Mi, δ, R, qq⟩ := tG_bind (P := pAp X q i) qq
  refine ⟨Mi, δ, R, qq.imp fun vs H1 ⟨Mi, ds, δ1, R1, p, r⟩ => ?_⟩
  cases hl : lendable δ1 i with
  | none =>
    rw [hl] at r
    exact False.elim r
  | some d =>
    rw [hl] at r
    have r' : RunG X W (pD X) Mi σ H1 δ1 (if q < ds.length then (cellResR i q (m ((ds.map Cell.val).set q (.ref d))) δ1).bind toVal else .bad) Q := r
    split at r'
    · rename_i hlt
      exact callR_spM R1 hl hlt p r'
    · exact r'.elim
end
end Dl

set_option Elab.async false
set_option linter.all false
set_option maxRecDepth 100000
namespace Dl
open PySem PySem.Spec PyProof.Rows L2
variable [Reg] [TabC]
section
variable {X : Cx} {W : WX} {Mi : Msk} {σ : St} {H H1 : Hp} {δ δ1 : DEnv}

/-! ### containers changed in place: the slot v has it for its own, or it is lent -/
theorem Mv.updM {M : Msk} {p : Addr} {o : HO} (h : M p) : Mv M H M (upd H p o) := fun a u n e _ => ⟨n, by
  rw [upd_ne (b := a) fun z => n (by rw [z]; exact h)]
  exact e⟩
theorem lend_slot {v : Nat} {d : D} (R : Rep X.K Mi σ H δ) (h : lendable δ v = some d) : ∃ a c, σ[v]? = some (some (.ref a)) ∧ δ[v]? = some (some c) ∧ (c = .own d ∨ c = .ref d) ∧ msk Mi σ δ a ∧ Cont X.K (msk Mi σ δ) H a d := by
  rcases lend_cell h with c | c
  · obtain ⟨u, eu, a, rfl, n, ct⟩ := R.cell v _ c
    exact ⟨a, _, eu, c, .inl rfl, .inr ⟨v, d, c, eu⟩, ct⟩
  · obtain ⟨u, eu, a, rfl, n, ct⟩ := R.cell v _ c
    exact ⟨a, _, eu, c, .inr rfl, .inl n, ct⟩
/-- the slot's container becomes d -/
def putD (v : Nat) (d : D) (δ : DEnv) : DEnv :=
  match δ[v]? with
  | some (some c) => δ.set v (some (upCell c d))
  | _ => δ
theorem putD_eq {v : Nat} {d : D} {c : Cell} (h : δ[v]? = some (some c)) : putD v d δ = δ.set v (some (upCell c d)) := by
  unfold putD
  rw [h]
theorem hasSlot {v : Nat} {d : D} (R : Rep X.K Mi σ H δ) (h : lendable δ v = some d) : ∃ a, σ[v]? = some (some (.ref a)) := by
  obtain ⟨a, c, s, _⟩ := lend_slot R h
  exact ⟨a, s⟩
def onList (v : Nat) (δ : DEnv) (g : List D → RS) : RS :=
  match lendable δ v with
  | some (.list ds) => g ds
  | _ => .bad
/-- x[i] = e -/
def sItem (v : Nat) (Fi F : Fe D) : Fs := fun δ => (F δ).bindS fun d δ1 =>
  if (lendable δ1 v).isSome = true then (Fi δ1).bindS fun k δ2 => onList v δ2 fun ds =>
    match k with
    | .int j => match ixN ds.length j with
      | some jn => .next (putD v (.list (ds.set jn d)) δ2)
      | none => .bad
    | _ => .bad
  else .bad
variable {e i : Expr} {x : Str} {pos p p2 p3 : Pos} {Fv Fi : Fe D}
theorem ds_item {v : Nat} (hN : X.N[v]? = some x) (hv : Vis X.env.scope x) (hi : DE X W i Fi) (h : DE X W e Fv) (hs : swapsWithSole [.Subscript (.Name x p) i p2] e pos.line X.env = pure false := by rfl) (hw : swappedStores [.Subscript (.Name x p) i p2] e X.env = pure none := by rfl)
    (h1 : (assignEach [.Subscript (.Name x p) i p2] X.env).map (fun x => x.2) = [assign (.Subscript (.Name x p) i p2) X.env] := by rfl) (hps : PG X (.Subscript (.Name x p) i p2) (gSub (tVar v) (tG X W (pD X) Fi) rSetL)) : DS X W (.Assign [.Subscript (.Name x p) i p2] e pos) (sItem v Fi Fv) := by
  refine PS.imp (ps_asg h hps hs hw h1) fun σ H E q => ?_
  obtain ⟨Mi, δ, R, q⟩ := tS_bind (P := pD X) q
  refine ⟨Mi, δ, R, q.imp fun u H1 ⟨Mi, d, δ1, R1, pd, r⟩ => ?_⟩
  split at r
  · rename_i hl
    obtain ⟨d0, hl⟩ := Option.isSome_iff_exists.mp hl
    obtain ⟨a, sa⟩ := hasSlot R1 hl
    refine ⟨.ref a, sa, Mi, δ1, R1, (RunS.bind (P := pD X) r).imp fun w H2 ⟨k, δ2, g2, pk, r2⟩ => ?_⟩
    have pd2 := stays_D _ _ _ _ _ _ _ _ R1 g2 pd
    unfold onList at r2
    split at r2
    · rename_i ds hl2
      dsimp only at r2
      obtain ⟨a2, c, sa2, ec, hc, ma, ct⟩ := lend_slot g2.rep hl2
      rw [sa] at sa2
      cases sa2
      obtain ⟨xs, ex, rx⟩ := ct
      split at r2
      · rename_i j
        split at r2
        · rename_i jn ej
          have pk' : Dat X.K (msk Mi σ δ2) H2 (.int j) w := pk
          simp only [Dat] at pk'
          refine ⟨a, xs, j, jn, rfl, pk', ex, by rw [rx.length]; exact ej, r2 σ _ ?_⟩
          rw [putD_eq ec]
          exact Go.write g2.rep ec hc sa ⟨_, upd_same, (rx.set jn pd2).mv (Mv.updM ma)⟩
        · exact False.elim r2
      · exact False.elim r2
    · exact False.elim r2
  · exact False.elim r
theorem pget_list : PGet X (fun o i H Q => ∃ p xs k v, o = .ref p ∧ i = .int k ∧ Rd H p (.lst xs) ∧ 0 ≤ k ∧ xs[k.toNat]? = some v ∧ Q v H) := by
  intro pins s σ H o i ov iv Q I ro ri ⟨p, xs, k, v, e1, e2, hp, h0, hk, q⟩
  subst e1 e2
  cases ro
  obtain ⟨t, rfl⟩ := ri
  obtain ⟨z, its, n, r, hl, eo⟩ := rd_list I (.inl hp)
  obtain ⟨u, eu, ru⟩ := r.get hk
  have hlt := (List.getElem?_eq_some_iff.mp hk).1
  have : sizeLine < 2 ^ 63 := by decide
  exact wpAny_getItem_list ⟨_, eo, rfl, _, rfl⟩ h0 (by omega) (by simpa using eu) ⟨v, H, I, ru, q⟩
/-- x[i] += e, of ints; f: + or - -/
def sAugI (v : Nat) (f : Int → Int → Int) (Fi F : Fe D) : Fs := fun δ =>
  if (lendable δ v).isSome = true then (Fi δ).bindS fun k δ1 => onList v δ1 fun ds =>
    match k with
    | .int j => if 0 ≤ j then
        match ds[j.toNat]? with
        | some (.int old) => (F δ1).bindS fun d δ2 => onList v δ2 fun ds2 =>
          match d with
          | .int y => if ds2.length = ds.length then .next (putD v (.list (ds2.set j.toNat (.int (f old y)))) δ2) else .bad
          | _ => .bad
        | _ => .bad
      else .bad
    | _ => .bad
  else .bad
theorem ds_augI {v : Nat} {op : Operator} {f : Int → Int → Int} (ho : PIp X op (ipI f)) (hN : X.N[v]? = some x) (hv : Vis X.env.scope x) (hi : DE X W i Fi) (h : DE X W e Fv) (hd : (x == ("__debug__" : Str)) = false := by decide +kernel) (hcd : (x == ("__classdict__" : Str)) = false := by decide +kernel)
    (ha : ∀ ov iv new, augStore i ov iv new = (do holding [new, ov, iv] (setItem ov iv new); release [new, ov, iv] []; pure .next) := by intros; rfl) : DS X W (.AugAssign (.Subscript (.Name x p) i p2) op e pos) (sAugI v f Fi Fv) := by
  refine PS.imp (ps_augS (pe_var hN hv hd hcd) hi pget_list h ho set_list ha) fun σ H E ⟨Mi, δ, R, q⟩ => ?_
  unfold sAugI at q
  split at q
  · rename_i hl
    obtain ⟨d0, hl⟩ := Option.isSome_iff_exists.mp hl
    obtain ⟨a, sa⟩ := hasSlot R hl
    refine ⟨.ref a, sa, Mi, δ, R, (RunS.bind (P := pD X) q).imp fun w H2 ⟨k, δ2, g2, pk, r2⟩ => ?_⟩
    unfold onList at r2
    split at r2
    · rename_i ds hl2
      dsimp only at r2
      obtain ⟨a2, c, sa2, ec, hc, ma, ct⟩ := lend_slot g2.rep hl2
      rw [sa] at sa2
      cases sa2
      obtain ⟨xs, ex, rx⟩ := ct
      split at r2
      · rename_i j
        have pk' : Dat X.K (msk Mi σ δ2) H2 (.int j) w := pk
        simp only [Dat] at pk'
        split at r2
        · rename_i h0
          split at r2
          · rename_i old eo
            obtain ⟨ov, eov, dov⟩ := rx.get eo
            simp only [Dat] at dov
            refine ⟨a, xs, j, ov, rfl, pk', .inl ex, h0, eov, Mi, δ2, g2.rep, (RunS.bind (P := pD X) r2).imp fun u H3 ⟨d, δ3, g3, pd, r3⟩ => ?_⟩
            split at r3
            · rename_i ds3 hl3
              obtain ⟨a3, c3, sa3, ec3, hc3, ma3, ct3⟩ := lend_slot g3.rep hl3
              rw [sa] at sa3
              cases sa3
              obtain ⟨xs3, ex3, rx3⟩ := ct3
              split at r3
              · rename_i y
                have pd' : Dat X.K (msk Mi σ δ3) H3 (.int y) u := pd
                simp only [Dat] at pd'
                split at r3
                · rename_i hlen
                  have hj : j.toNat < ds.length := (List.getElem?_eq_some_iff.mp eo).1
                  refine ⟨old, y, dov, pd', a, xs3, j, j.toNat, rfl, pk', ex3, ?_, r3 σ _ ?_⟩
                  · unfold ixN
                    rw [if_pos h0, if_pos (by rw [rx3.length]; omega)]
                  · rw [putD_eq ec3]
                    exact Go.write g3.rep ec3 hc3 sa ⟨_, upd_same, (rx3.set j.toNat .mkInt).mv (Mv.updM ma3)⟩
                · exact False.elim r3
              · exact False.elim r3
            · exact False.elim r3
          · exact False.elim r2
        · exact False.elim r2
      · exact False.elim r2
    · exact False.elim r2
  · exact q.elim
def isLst (δ : DEnv) (v : Nat) : Bool :=
  match lendable δ v with
  | some (.list _) => true
  | _ => false
theorem isLst_un {v : Nat} (h : isLst δ v = true) : ∃ ds, lendable δ v = some (.list ds) := by
  unfold isLst at h
  split at h
  · rename_i ds e
    exact ⟨ds, e⟩
  · cases h
/-- x.append(e) -/
def sApp (v : Nat) (F : Fe D) : Fs := fun δ =>
  if isLst δ v = true then (F δ).bindS fun d δ1 => onList v δ1 fun ds => if ds.length < 1000000 then .next (putD v (.list (ds ++ [d])) δ1) else .bad
  else .bad
theorem ds_app {v : Nat} (hp : PS X (.Expr (.Call (.Attribute (.Name x p) "append" p2) [e] [] p3) pos) (tDrop (tBM X.K "list" rAppend (tVar v) (tCons (tG X W (pD X) Fv) tNil)))) : DS X W (.Expr (.Call (.Attribute (.Name x p) "append" p2) [e] [] p3) pos) (sApp v Fv) := by
  refine PS.imp hp fun σ H E ⟨Mi, δ, R, q⟩ => ?_
  unfold sApp at q
  split at q
  · rename_i hl
    obtain ⟨d0, hl⟩ := isLst_un hl
    obtain ⟨a, sa⟩ := hasSlot R hl
    obtain ⟨a0, c0, sa0, ec0, hc0, ma0, ct0⟩ := lend_slot R hl
    rw [sa] at sa0
    cases sa0
    refine ⟨.ref a, sa, ?_, Mi, δ, R, (RunS.bind (P := pD X) q).imp fun w H2 ⟨d, δ2, g2, pd, r2⟩ => ?_⟩
    · obtain ⟨xs, ex, _⟩ := ct0
      exact .inl ⟨rfl, xs, .inl (.inl ex)⟩
    · unfold onList at r2
      split at r2
      · rename_i ds hl2
        dsimp only at r2
        obtain ⟨a2, c, sa2, ec, hc, ma, ct⟩ := lend_slot g2.rep hl2
        rw [sa] at sa2
        cases sa2
        obtain ⟨xs, ex, rx⟩ := ct
        split at r2
        · rename_i hlt
          refine ⟨a, xs, w, rfl, rfl, ex, ?_, r2 σ _ ?_⟩
          · rw [rx.length]
            exact Nat.lt_of_lt_of_le hlt (by decide)
          · rw [putD_eq ec]
            exact Go.write g2.rep ec hc sa ⟨_, upd_same, (rx.append (.cons pd .nil)).mv (Mv.updM ma)⟩
        · exact False.elim r2
      · exact False.elim r2
  · exact q.elim

/-! ### comprehensions -/
def wipeE (δ : DEnv) : List Nat → DEnv
  | [] => δ
  | v :: vs => (wipeE δ vs).set v none
theorem wipeE_get {δ : DEnv} {j : Nat} {c : Cell} : ∀ {vs : List Nat}, (wipeE δ vs)[j]? = some (some c) → j ∉ vs ∧ δ[j]? = some (some c)
  | [], h => ⟨by simp, h⟩
  | v :: vs, h => by
    rcases get_set_some (show ((wipeE δ vs).set v none)[j]? = some (some c) from h) with ⟨_, z, _⟩ | ⟨n, z⟩
    · cases z
    · obtain ⟨h1, h2⟩ := wipeE_get z
      exact ⟨fun y => by
        rcases List.mem_cons.mp y with y | y
        · exact n y
        · exact h1 y, h2⟩
theorem wipeE_keep {δ : DEnv} {j : Nat} {c : Cell} : ∀ {vs : List Nat}, j ∉ vs → δ[j]? = some (some c) → (wipeE δ vs)[j]? = some (some c)
  | [], _, h => h
  | v :: vs, n, h => by
    show ((wipeE δ vs).set v none)[j]? = some (some c)
    rw [List.getElem?_set_ne (fun z => n (by simp [z]))]
    exact wipeE_keep (fun z => n (List.mem_cons_of_mem _ z)) h
theorem wipeE_len (δ : DEnv) : ∀ vs : List Nat, (wipeE δ vs).length = δ.length
  | [] => rfl
  | v :: vs => by
    show ((wipeE δ vs).set v none).length = _
    rw [List.length_set, wipeE_len δ vs]
/-- the slots hold nothing that may be changed -/
def calmAt (δ : DEnv) (vs : List Nat) : Bool := vs.all fun v =>
  match δ[v]? with
  | some (some (.own _)) => false
  | some (some (.ref _)) => false
  | some (some (.exc _ _ _)) => false
  | _ => true
/-- .. and hold what they held -/
def back (δ0 : DEnv) : List Nat → DEnv → DEnv
  | [], δ => δ
  | v :: vs, δ => match δ0[v]? with
    | some x => (back δ0 vs δ).set v x
    | none => back δ0 vs δ
theorem back_get {δ0 δ : DEnv} {j : Nat} {c : Cell} : ∀ {vs : List Nat}, (back δ0 vs δ)[j]? = some (some c) → (j ∈ vs ∧ δ0[j]? = some (some c)) ∨ (j ∉ vs ∧ δ[j]? = some (some c)) ∨ (δ[j]? = some (some c) ∧ δ0[j]? = none)
  | [], h => .inr (.inl ⟨by simp, h⟩)
  | v :: vs, h => by
    unfold back at h
    split at h
    · rename_i x e
      rcases get_set_some h with ⟨rfl, z, _⟩ | ⟨n, z⟩
      · rw [← z] at e
        exact .inl ⟨List.mem_cons_self, e⟩
      · rcases back_get z with ⟨h1, h2⟩ | ⟨h1, h2⟩ | h1
        · exact .inl ⟨List.mem_cons_of_mem _ h1, h2⟩
        · exact .inr (.inl ⟨fun y => by
            rcases List.mem_cons.mp y with y | y
            · exact n y
            · exact h1 y, h2⟩)
        · exact .inr (.inr h1)
    · rename_i e
      rcases back_get h with ⟨h1, h2⟩ | ⟨h1, h2⟩ | h1
      · exact .inl ⟨List.mem_cons_of_mem _ h1, h2⟩
      · by_cases y : j = v
        · subst y
          exact .inr (.inr ⟨h2, e⟩)
        · exact .inr (.inl ⟨fun z => by
            rcases List.mem_cons.mp z with z | z
            · exact y z
            · exact h1 z, h2⟩)
      · exact .inr (.inr h1)
theorem back_keep {δ0 δ : DEnv} {j : Nat} {c : Cell} : ∀ {vs : List Nat}, j ∉ vs → δ[j]? = some (some c) → (back δ0 vs δ)[j]? = some (some c)
  | [], _, h => h
  | v :: vs, n, h => by
    have ih := back_keep (δ0 := δ0) (vs := vs) (fun z => n (List.mem_cons_of_mem _ z)) h
    unfold back
    split
    · rw [List.getElem?_set_ne (fun z => n (by simp [z]))]
      exact ih
    · exact ih
theorem back_len (δ0 δ : DEnv) : ∀ vs : List Nat, (back δ0 vs δ).length = δ.length
  | [] => rfl
  | v :: vs => by
    unfold back
    split
    · rw [List.length_set, back_len δ0 δ vs]
    · exact back_len δ0 δ vs
theorem calmAt_un {vs : List Nat} (h : calmAt δ vs = true) {j : Nat} {c : Cell} (hj : j ∈ vs) (e : δ[j]? = some (some c)) : c.isMut = false := by
  have := List.all_eq_true.mp h j hj
  rw [e] at this
  cases c with
  | val d => rfl
  | own d => cases this
  | ref d => cases this
  | exc _ _ _ => rfl
theorem calmAt_un2 {δ : DEnv} {vs : List Nat} {j : Nat} (h : calmAt δ vs = true) (hj : j ∈ vs) : isRef δ[j]? = false := by
  unfold calmAt at h
  have := List.all_eq_true.mp h j hj
  cases e : δ[j]? with
  | none => rfl
  | some x => cases x with
    | none => rfl
    | some c =>
      rw [e] at this
      cases c <;> first | rfl | cases this
theorem wipeE_far {δ : DEnv} {j : Nat} : ∀ {vs : List Nat}, j ∉ vs → (wipeE δ vs)[j]? = δ[j]?
  | [], _ => rfl
  | v :: vs, h => by
    show ((wipeE δ vs).set v none)[j]? = _
    rw [List.getElem?_set_ne (fun z => h (by rw [z]; exact List.mem_cons_self))]
    exact wipeE_far fun z => h (List.mem_cons_of_mem _ z)
theorem back_far {δ0 δ : DEnv} {j : Nat} : ∀ {vs : List Nat}, j ∉ vs → (back δ0 vs δ)[j]? = δ[j]?
  | [], _ => rfl
  | v :: vs, h => by
    have ih := back_far (δ0 := δ0) (δ := δ) (j := j) (vs := vs) fun z => h (List.mem_cons_of_mem _ z)
    unfold back
    split
    · rw [List.getElem?_set_ne (fun z => h (by rw [z]; exact List.mem_cons_self))]
      exact ih
    · exact ih
variable {Mo : Msk} {σ' : St} {H' : Hp} {δ' : DEnv} {K : PySem.W.Frag}
/-- slots of a state forgotten; the values agree elsewhere -/
theorem Go.wiped {vs : List Nat} {σw : St} (R : Rep K Mi σ H δ) (g : Go K Mi Mo σ H δ σ' H' δ') (hl : σ'.length ≤ σw.length) (hσ : ∀ j, j ∉ vs → σw[j]? = σ'[j]?) (hr : ∀ j ∈ vs, isRef δ[j]? = false) : Go K Mi Mo σ H δ σw H' (wipeE δ' vs) := by
  have own_ : ∀ a, Owned σw (wipeE δ' vs) a → Owned σ' δ' a := fun a ⟨j, d, e, s⟩ => by
    obtain ⟨h1, h2⟩ := wipeE_get e
    rw [hσ j h1] at s
    exact ⟨j, d, h2, s⟩
  have m : Mv (msk Mo σ' δ') H' (msk Mo σw (wipeE δ' vs)) H' := Mv.shrink fun a z => z.elim .inl fun z => .inr (own_ a z)
  have far : ∀ p ∈ Reg.pins, p.1 ∉ vs := fun p hp z => by
    have h1 := hr p.1 z
    rw [(R.pin p hp).2] at h1
    cases h1
  refine ⟨⟨by rw [wipeE_len]; exact Nat.le_trans g.rep.len hl, fun j c e => ?_, fun i j c c' a ne e1 e2 m1 m2 s1 s2 => ?_, g.rep.dom, fun p hp => ⟨by rw [hσ p.1 (far p hp)]; exact (g.rep.pin p hp).1, by rw [wipeE_far (far p hp)]; exact (g.rep.pin p hp).2⟩, g.rep.tab⟩, g.stab, fun a z => g.own a (own_ a z), fun j ⟨d, e⟩ => ?_, fun j ⟨d, e⟩ => ?_, g.trk⟩
  · obtain ⟨h1, h2⟩ := wipeE_get e
    obtain ⟨v, ev, r⟩ := g.rep.cell j c h2
    exact ⟨v, by rw [hσ j h1]; exact ev, r.mv m (fun _ _ _ _ _ n => n) (fun _ _ z _ => z) fun _ _ _ => rfl⟩
  · obtain ⟨h1, h2⟩ := wipeE_get e1
    obtain ⟨h3, h4⟩ := wipeE_get e2
    rw [hσ i h1] at s1
    rw [hσ j h3] at s2
    exact g.rep.sep i j c c' a ne h2 h4 m1 m2 s1 s2
  · have nj : j ∉ vs := fun z => by
      have := hr j z
      rw [e] at this
      cases this
    obtain ⟨q, d', e'⟩ := g.lent j ⟨d, e⟩
    exact ⟨(hσ j nj).trans q, d', wipeE_keep nj e'⟩
  · exact g.lentB j ⟨d, (wipeE_get e).2⟩
/-- .. and found again -/
theorem Go.backed {vs : List Nat} {σw : St} (R : Rep K Mi σ H δ) (g : Go K Mi Mo σ H δ σw H' δ') (hm : ∀ a, Mo a → msk Mi σ δ a ∨ H a = none) (hc : calmAt δ vs = true) (hσ : ∀ j, j ∉ vs → σw[j]? = σ[j]?) (hl : δ'.length = δ.length) : Go K Mi Mo σ H δ σ H' (back δ vs δ') := by
  have dead : ∀ {j c}, δ'[j]? = some (some c) → δ[j]? ≠ none := fun {j c} e z => by
    have h1 := (List.getElem?_eq_some_iff.mp e).1
    have h2 := List.getElem?_eq_none_iff.mp z
    omega
  have get_ : ∀ {j : Nat} {c : Cell}, (back δ vs δ')[j]? = some (some c) → (j ∈ vs ∧ δ[j]? = some (some c)) ∨ (j ∉ vs ∧ δ'[j]? = some (some c)) := fun {j c} e => by
    rcases back_get e with h | h | ⟨h1, h2⟩
    · exact .inl h
    · exact .inr h
    · exact absurd h2 (dead h1)
  have own_ : ∀ a, Owned σ (back δ vs δ') a → Owned σw δ' a := fun a ⟨j, d, e, s⟩ => by
    rcases get_ e with ⟨h1, h2⟩ | ⟨h1, h2⟩
    · have := calmAt_un hc h1 h2
      cases this
    · rw [← hσ j h1] at s
      exact ⟨j, d, h2, s⟩
  have m : Mv (msk Mo σw δ') H' (msk Mo σ (back δ vs δ')) H' := Mv.shrink fun a z => z.elim .inl fun z => .inr (own_ a z)
  have m0 : Mv (msk Mi σ δ) H (msk Mo σ (back δ vs δ')) H' := (g.mvW R hm).trans m
  have far : ∀ p ∈ Reg.pins, p.1 ∉ vs := fun p hp z => by
    have h1 := calmAt_un2 hc z
    rw [(R.pin p hp).2] at h1
    cases h1
  refine ⟨⟨by rw [back_len, hl]; exact R.len, fun j c e => ?_, fun i j c c' a ne e1 e2 m1 m2 s1 s2 => ?_, g.rep.dom, fun p hp => ⟨(R.pin p hp).1, by rw [back_far (far p hp)]; exact (g.rep.pin p hp).2⟩, g.rep.tab⟩, g.stab, fun a z => g.own a (own_ a z), fun j ⟨d, e⟩ => ?_, fun j ⟨d, e⟩ => ?_, g.trk⟩
  · rcases get_ e with ⟨h1, h2⟩ | ⟨h1, h2⟩
    · obtain ⟨v, ev, r⟩ := R.cell j c h2
      refine ⟨v, ev, ?_⟩
      have nm := calmAt_un hc h1 h2
      cases c with
      | val d => exact Dat.mv m0 r
      | own d => cases nm
      | ref d => cases nm
      | exc b dd x => exact ExcR.mv m0 r
    · obtain ⟨v, ev, r⟩ := g.rep.cell j c h2
      exact ⟨v, by rw [← hσ j h1]; exact ev, r.mv m (fun _ _ _ _ _ n => n) (fun _ _ z _ => z) fun _ _ _ => rfl⟩
  · rcases get_ e1 with ⟨h1, h2⟩ | ⟨h1, h2⟩
    · rw [calmAt_un hc h1 h2] at m1
      cases m1
    · rcases get_ e2 with ⟨h3, h4⟩ | ⟨h3, h4⟩
      · rw [calmAt_un hc h3 h4] at m2
        cases m2
      · rw [← hσ i h1] at s1
        rw [← hσ j h3] at s2
        exact g.rep.sep i j c c' a ne h2 h4 m1 m2 s1 s2
  · have nj : j ∉ vs := fun z => by
      have := calmAt_un hc z e
      cases this
    obtain ⟨q, d', e'⟩ := g.lent j ⟨d, e⟩
    exact ⟨rfl, d', back_keep nj e'⟩
  · rcases get_ e with ⟨h1, h2⟩ | ⟨h1, h2⟩
    · exact ⟨d, h2⟩
    · exact g.lentB j ⟨d, h2⟩
/-- a container that is nobody's is changed -/
theorem Go.atNew {D0 : Addr} {o : HO} (R : Rep K Mi σ H δ) (n : H D0 = none) (hk : ∃ u, H' D0 = some u ∧ ((∃ xs, u = .lst xs) ∨ (∃ kv, u = .dK kv) ∨ ∃ kt, u = .dT kt)) (g : Go K Mi (plus Mi D0) σ H δ σ' H' δ') : Go K Mi (plus Mi D0) σ H δ σ' (upd H' D0 o) δ' := by
  have m : Mv (msk (plus Mi D0) σ' δ') H' (msk (plus Mi D0) σ' δ') (upd H' D0 o) := Mv.updM (.inl (.inr rfl))
  refine ⟨⟨g.rep.len, fun j c e => ?_, g.rep.sep, fun a z q => g.rep.dom a z (trk_upd a q), g.rep.pin, TabsN.upd g.rep.tab hk⟩, fun a u n1 n2 e nt => ?_, g.own, g.lent, g.lentB, fun a q => g.trk a (trk_upd a q)⟩
  · obtain ⟨v, ev, r⟩ := g.rep.cell j c e
    refine ⟨v, ev, r.mv m (fun _ _ _ _ _ n => n) (fun _ _ z _ => z) fun a hm ea => upd_ne fun z => ?_⟩
    subst z
    subst ea
    cases c with
    | val d => cases hm
    | own d =>
      obtain ⟨b, eb, nb, _⟩ := r
      cases eb
      exact nb (.inr rfl)
    | ref d => exact R.dom a (R.lent_in (Lent.of g ⟨j, d, e, ev⟩)) n
    | exc _ _ _ => cases hm
  · rw [upd_ne (ne_of_none e n)]
    exact g.stab a u n1 n2 e nt
/-- the items, one behind another -/
def compL (vs : List Nat) (B : Bd) (T : Fe Bool) (E : Fe D) : List D → List D → Fe (List D)
  | [], acc, δ => .ok acc δ
  | d :: ds, acc, δ =>
    match B d δ with
    | none => .bad
    | some δ1 => match T δ1 with
      | .ok true δ2 => (match E δ2 with
        | .ok y δ3 => compL vs B T E ds (acc ++ [y]) (wipeE δ3 vs)
        | _ => .bad)
      | .ok false δ2 => compL vs B T E ds acc (wipeE δ2 vs)
      | _ => .bad
/-- [E for B in I if T]; vs: the block's own slots -/
def fComp (vs : List Nat) (I : Fe (List D)) (B : Bd) (T : Fe Bool) (E : Fe D) : Fe D := fun δ => (I δ).bind fun ds δ1 =>
  if calmAt δ1 vs = true ∧ ds.length ≤ 1000000 then
    match compL vs B T E ds [] (wipeE δ1 vs) with
    | .ok acc δ2 => if δ2.length = δ1.length then .ok (.list acc) (back δ1 vs δ2) else .bad
    | _ => .bad
  else .bad
def noW : WX := fun _ _ _ _ => False
def fYes : Fe Bool := fun δ => .ok true δ
def DTs (X : Cx) (W : WX) (ifs : List Expr) (T : Fe Bool) : Prop := PTs X ifs (tG X W pB T)
theorem PTs.imp {X : Cx} {ifs : List Expr} {t t' : TT} (h : PTs X ifs t) (i : ∀ σ H Q, t' σ H Q → t σ H Q) : PTs X ifs t' := ⟨fun pins s σ H Q I q => h.run pins s σ H Q I (i _ _ _ q)⟩
theorem dts_nil : DTs X W [] fYes := PTs.imp pts_nil fun σ H Q ⟨Mi, δ, R, h⟩ => h true H (Go.refl R) rfl
theorem dts_one {c : Expr} {T : Fe Bool} (h : DT X W c T) : DTs X W [c] T := pts_one h
theorem wipe_far {vs sl : List Nat} {σ σ2 : St} (hs : ∀ j ∈ sl, j ∈ vs) (f : Far sl (wipe σ vs) σ2) : wipe σ2 vs = wipe σ vs := by
  refine List.ext_getElem? fun j => ?_
  have len2 : σ2.length = σ.length := by rw [f.1, wipe_length]
  by_cases hj : j ∈ vs
  · have in_ : ∀ (τ : St) (vs : List Nat), j ∈ vs → j < τ.length → (wipe τ vs)[j]? = some none := fun τ vs => by
      induction vs with
      | nil => intro h; simp at h
      | cons v vs ih =>
        intro h hlt
        show ((wipe τ vs).set v none)[j]? = some none
        by_cases e : v = j
        · subst e
          rw [List.getElem?_set_self (by rw [wipe_length]; exact hlt)]
        · rw [List.getElem?_set_ne e]
          exact ih ((List.mem_cons.mp h).resolve_left fun z => e z.symm) hlt
    by_cases hlt : j < σ.length
    · rw [in_ σ2 vs hj (by omega), in_ σ vs hj hlt]
    · rw [List.getElem?_eq_none (by rw [wipe_length]; omega), List.getElem?_eq_none (by rw [wipe_length]; omega)]
  · rw [wipe_out hj, f.2 j fun z => hj (hs j z)]
theorem comp_rd {vs sl : List Nat} {I : Fe (List D)} {B : Bd} {T : Fe Bool} {E : Fe D} {Q : VK} (hs : ∀ j ∈ sl, j ∈ vs) (q : tN X W (fComp vs I B T E) σ H Q) : tLc (tG X W (pI X) I) (tB1 X sl B) (tG X noW pB T) (tG X noW (pD X) E) vs σ H Q := by
  obtain ⟨Mi0, δ0, R0, q⟩ := tN_bind (P := pI X) q
  refine ⟨Mi0, δ0, R0, q.imp fun J H1 ⟨Mi, ds, δ1, R1, pj, r⟩ D0 nD => ?_⟩
  split at r
  case isFalse => exact False.elim r
  rename_i hc
  obtain ⟨hcalm, hlen⟩ := hc
  have outE : ∀ j, j ∉ vs → (wipe σ vs)[j]? = σ[j]? := fun j hj => wipe_out hj
  have noRef : ∀ j ∈ vs, isRef δ1[j]? = false := fun j hj => calmAt_un2 hcalm hj
  have hplus : ∀ a, plus Mi D0 a → msk Mi σ δ1 a ∨ H1 a = none := fun a z => z.elim (fun z => .inl (.inl z)) fun z => .inr (by rw [z]; exact nD)
  have g0 : Go X.K Mi (plus Mi D0) σ H1 δ1 (wipe σ vs) (upd H1 D0 (.lst [])) (wipeE δ1 vs) := Go.wiped R1 (Go.new R1 nD) (by rw [wipe_length]; exact Nat.le_refl _) outE noRef
  refine ⟨fun i m H => m = ds.length - i ∧ i ≤ ds.length ∧ ∃ δ acc xs, Go X.K Mi (plus Mi D0) σ H1 δ1 (wipe σ vs) H δ ∧ H D0 = some (.lst xs) ∧ DatAll X.K (msk (plus Mi D0) (wipe σ vs) δ) H acc xs ∧ acc.length ≤ i ∧
    RunN X W Mi σ H1 δ1 (match compL vs B T E (ds.drop i) acc δ with | .ok acc δ2 => if δ2.length = δ1.length then .ok (.list acc) (back δ1 vs δ2) else .bad | _ => .bad) Q, ⟨ds.length, by simp, Nat.zero_le _, wipeE δ1 vs, [], [], g0, upd_same, .nil, Nat.le_refl _, r⟩, ?_⟩
  rintro i m H ⟨rfl, hi, δ, acc, xs, g, hD, hA, hacc, r⟩
  obtain ⟨pi, ps⟩ := pj _ H (g.mvW R1 hplus) fun a z => g.rep.dom' z
  by_cases hlt : i < ds.length
  · have ei : ds[i]? = some ds[i] := List.getElem?_eq_getElem hlt
    obtain ⟨go, yl⟩ := pi i _ ei
    rw [List.drop_eq_getElem_cons hlt] at r
    refine .inr ⟨go, fun H' => ∃ δ acc xs, Go X.K Mi (plus Mi D0) σ H1 δ1 (wipe σ vs) H' δ ∧ H' D0 = some (.lst xs) ∧ DatAll X.K (msk (plus Mi D0) (wipe σ vs) δ) H' acc xs ∧ acc.length ≤ i + 1 ∧
      RunN X W Mi σ H1 δ1 (match compL vs B T E (ds.drop (i + 1)) acc δ with | .ok acc δ2 => if δ2.length = δ1.length then .ok (.list acc) (back δ1 vs δ2) else .bad | _ => .bad) Q, fun H' h => ⟨ds.length - (i + 1), by omega, rfl, hlt, h⟩, fun x H2 hy => ?_⟩
    obtain ⟨al, dx⟩ := yl x H2 hy
    have gA := Go.al g.rep al
    unfold compL at r
    cases eb : B ds[i] δ with
    | none =>
      rw [eb] at r
      exact False.elim r
    | some δa =>
      rw [eb] at r
      dsimp only at r
      refine ⟨plus Mi D0, _, δ, gA.rep, dx, δa, eb, fun σ2 g2 far => ⟨wipe_far hs far, plus Mi D0, δa, g2.rep, ?_⟩⟩
      have w2 : wipe σ2 vs = wipe σ vs := wipe_far hs far
      have out2 : ∀ j, j ∉ vs → (wipe σ vs)[j]? = σ2[j]? := fun j hj => by rw [← w2, wipe_out hj]
      have len2 : σ2.length ≤ (wipe σ vs).length := by rw [← w2, wipe_length]; exact Nat.le_refl _
      have noRefW : ∀ {δ : DEnv}, Go X.K Mi (plus Mi D0) σ H1 δ1 (wipe σ vs) H δ → True := fun _ => trivial
      cases et : T δa with
      | err z δb =>
        rw [et] at r
        exact False.elim r
      | bad =>
        rw [et] at r
        exact False.elim r
      | ok k δb =>
        rw [et] at r
        refine fun b H3 g3 pb => ?_
        have eb3 : b = k := pb
        subst eb3
        cases b with
        | false =>
          refine iteF ?_
          have gg : Go X.K Mi (plus Mi D0) σ H1 δ1 σ2 H3 δb := (g.trans gA).trans (g2.trans g3)
          have stepG : Go X.K (plus Mi D0) (plus Mi D0) (wipe σ vs) H δ σ2 H3 δb := gA.trans (g2.trans g3)
          have mv3 := stepG.mv g.rep
          have gw := Go.wiped R1 gg len2 out2 noRef
          have shr : Mv (msk (plus Mi D0) σ2 δb) H3 (msk (plus Mi D0) (wipe σ vs) (wipeE δb vs)) H3 := Mv.shrink fun a z => z.elim .inl fun ⟨j, d, e, s⟩ => by
            obtain ⟨h1, h2⟩ := wipeE_get e
            rw [out2 j h1] at s
            exact .inr ⟨j, d, h2, s⟩
          refine ⟨wipeE δb vs, acc, xs, gw, ?_, (hA.mv mv3).mv shr, by omega, r⟩
          refine stepG.stab D0 _ (fun z => ?_) (fun z => ?_) hD nt_lst
          · exact g.rep.own_out z (.inr rfl)
          · exact R1.dom D0 (R1.lent_in (Lent.of g z)) nD
        | true =>
          refine iteT ⟨plus Mi D0, δb, g3.rep, ?_⟩
          dsimp only at r
          cases ee : E δb with
          | err z δc =>
            rw [ee] at r
            exact False.elim r
          | bad =>
            rw [ee] at r
            exact False.elim r
          | ok y δc =>
            rw [ee] at r
            refine fun u H4 g4 pu => ?_
            have gg : Go X.K Mi (plus Mi D0) σ H1 δ1 σ2 H4 δc := ((g.trans gA).trans (g2.trans g3)).trans g4
            have stepG : Go X.K (plus Mi D0) (plus Mi D0) (wipe σ vs) H δ σ2 H4 δc := (gA.trans (g2.trans g3)).trans g4
            have mv3 := stepG.mv g.rep
            have shr : Mv (msk (plus Mi D0) σ2 δc) H4 (msk (plus Mi D0) (wipe σ vs) (wipeE δc vs)) H4 := Mv.shrink fun a z => z.elim .inl fun ⟨j, d, e, s⟩ => by
              obtain ⟨h1, h2⟩ := wipeE_get e
              rw [out2 j h1] at s
              exact .inr ⟨j, d, h2, s⟩
            have hD4 : H4 D0 = some (.lst xs) := by
              refine stepG.stab D0 _ (fun z => ?_) (fun z => ?_) hD nt_lst
              · exact g.rep.own_out z (.inr rfl)
              · exact R1.dom D0 (R1.lent_in (Lent.of g z)) nD
            have gw := Go.atNew (o := .lst (xs ++ [u])) R1 nD ⟨_, hD4, .inl ⟨_, rfl⟩⟩ (Go.wiped R1 gg len2 out2 noRef)
            have pu' : Dat X.K (msk (plus Mi D0) σ2 δc) H4 y u := pu
            refine ⟨xs, hD4, ?_, wipeE δc vs, acc ++ [y], xs ++ [u], gw, upd_same, ?_, ?_, r⟩
            · have : xs.length ≤ i := by rw [hA.length]; exact hacc
              exact Nat.lt_of_lt_of_le (Nat.lt_of_le_of_lt this (Nat.lt_of_lt_of_le hlt hlen)) (by decide)
            · exact (((hA.mv mv3).append (.cons pu' .nil)).mv shr).mv (Mv.updM (.inl (.inr rfl)))
            · rw [List.length_append, List.length_singleton]
              omega
  · have e : i = ds.length := by omega
    subst e
    rw [List.drop_length] at r
    refine .inl ⟨ps, ?_⟩
    unfold compL at r
    dsimp only at r
    split at r
    · rename_i hl
      have gb := Go.backed R1 g hplus hcalm outE hl
      have shr : Mv (msk (plus Mi D0) (wipe σ vs) δ) H (msk (plus Mi D0) σ (back δ1 vs δ)) H := Mv.shrink fun a z => z.elim .inl fun ⟨j, d, e, s⟩ => by
        rcases back_get e with ⟨h1, h2⟩ | ⟨h1, h2⟩ | ⟨h1, h2⟩
        · have := calmAt_un hcalm h1 h2
          cases this
        · rw [← outE j h1] at s
          exact .inr ⟨j, d, h2, s⟩
        · have h3 := (List.getElem?_eq_some_iff.mp h1).1
          have h4 := List.getElem?_eq_none_iff.mp h2
          omega
      exact r D0 H gb nD ⟨xs, hD, hA.mv shr⟩
    · exact False.elim r
theorem do_comp {elt tg iter : Expr} {ifs : List Expr} {scope : Scope} {own : List (Str × Nat)} {pos : Pos} {sl : List Nat} {I : Fe (List D)} {B : Bd} {T : Fe Bool} {E : Fe D} (hc : X.calm = true) (hN : X.N.Nodup) (hi : DI X W tg iter I) (ok : BlkOk X.N X.env.scope scope own) (hs : ∀ j ∈ sl, j ∈ own.map (·.2))
    (hg : ∀ (s : Shared) (H : Hp) (C : Addr) (cl : List (Str × Addr)) (fp : List Addr), DG (X.blk s H scope (compEnvC scope cl C X.env) fp) tg sl B) (ht : ∀ (s : Shared) (H : Hp) (C : Addr) (cl : List (Str × Addr)) (fp : List Addr), DTs (X.blk s H scope (compEnvC scope cl C X.env) fp) noW ifs T)
    (he : ∀ (s : Shared) (H : Hp) (C : Addr) (cl : List (Str × Addr)) (fp : List Addr), DE (X.blk s H scope (compEnvC scope cl C X.env) fp) noW elt E) (hf : ∀ x, foldedSetIterable iter X.env x = pure x := by intro _; rfl) :
    DO X W (.ListComp elt [⟨tg, iter, ifs, 0⟩] scope pos) (fComp (own.map (·.2)) I B T E) :=
  PE.imp (pe_lc (g := tB1 X sl B) (tt := tG X noW pB T) (te := tG X noW (pD X) E) hc hN hi ok hg ht he hf) fun σ H Q q => comp_rd hs q
end
end Dl

set_option Elab.async false
set_option linter.all false
set_option maxRecDepth 100000
namespace Dl
open PySem PySem.Spec PyProof.Rows L2
variable [Reg] [TabC]
section
variable {X : Cx} {W : WX} {Mi : Msk} {σ : St} {H H1 : Hp} {δ δ1 : DEnv}

/-! ### slices -/
def pPt : Rl (Option Int) (Option Int) := fun _ a _ _ _ o => o = a
def DPt (X : Cx) (W : WX) (e : Option Expr) (F : Fe (Option Int)) : Prop := PO X e (tG X W pPt F)
theorem PO.imp {e : Option Expr} {t t' : St → Hp → (Option Int → Hp → Prop) → Prop} (h : PO X e t) (i : ∀ σ H Q, t' σ H Q → t σ H Q) : PO X e t' := ⟨fun pins s σ H Q I q => h.run pins s σ H Q I (i σ H Q q)⟩
def ptNone : Fe (Option Int) := fun δ => .ok none δ
def toPt : D → DEnv → R (Option Int)
  | .int i, δ => .ok (some i) δ
  | _, _ => .bad
def ptSome (F : Fe D) : Fe (Option Int) := fun δ => (F δ).bind toPt
theorem dpt_none : DPt X W none ptNone := PO.imp po_none fun σ H Q ⟨Mi, δ, R, h⟩ => h none H (Go.refl R) rfl
theorem dpt_some {e : Expr} {F : Fe D} (h : DE X W e F) : DPt X W (some e) (ptSome F) := by
  refine PO.imp (po_some h) fun σ H Q q => ?_
  obtain ⟨Mi, δ, R, q⟩ := tG_bind (P := pD X) q
  refine ⟨Mi, δ, R, q.imp fun v H1 ⟨Mi, d, δ1, R1, p, r⟩ => ?_⟩
  have p' : Dat X.K (msk Mi σ δ1) H1 d v := p
  cases d with
  | int i =>
    simp only [Dat] at p'
    exact ⟨i, p', r _ H1 (Go.refl R1) rfl⟩
  | none => exact False.elim r
  | bool _ => exact False.elim r
  | str _ => exact False.elim r
  | list _ => exact False.elim r
  | tuple _ => exact False.elim r
  | dict _ => exact False.elim r
def cutD {α : Type} (xs : List α) (lo hi : Option Int) : List α := (xs.drop (HT.sIx xs.length 0 lo)).take (HT.sIx xs.length xs.length hi - HT.sIx xs.length 0 lo)
theorem DatAll.cut {K : PySem.W.Frag} {M : Msk} {H : Hp} {ds : List D} {xs : List V} (r : DatAll K M H ds xs) (lo hi : Option Int) : DatAll K M H (cutD ds lo hi) (cutV xs lo hi) := by
  unfold cutD cutV
  rw [r.length]
  exact (r.drop _).take _
def sliceF : D → Option Int → Option Int → Option D
  | .list ds, lo, hi => some (.list (cutD ds lo hi))
  | .tuple ds, lo, hi => some (.tuple (cutD ds lo hi))
  | .str z, lo, hi => if z.length ≤ 1000000 then some (.str (cutS z lo hi)) else none
  | _, _, _ => none
def rSlD (K : PySem.W.Frag) : V → Option Int → Option Int → Hp → VK → Prop := fun x lo hi H Q =>
  ∃ (M : Msk) (da d : D), (∀ a, M a → H a ≠ none) ∧ Pk K M H da x ∧ sliceF da lo hi = some d ∧ ∀ v H', Al H H' → Dat K M H' d v → Q v H'
theorem sl_D : SlR X (rSlD X.K) := by
  intro pins s σ H x v vl vu lo hi sl Q I rx hs pl pu ⟨M, da, d, hm, px, e, q⟩
  unfold sliceF at e
  split at e
  · cases e
    obtain ⟨a, xs, rfl, l, r⟩ := px.list
    exact sl_list pins s σ H _ v vl vu lo hi sl Q I rx hs pl pu ⟨a, xs, rfl, l.sq, fun p n => q _ _ (Al.new n) (.newLst hm n (r.cut lo hi))⟩
  · cases e
    obtain ⟨a, xs, rfl, l, r⟩ := px.tuple
    refine sl_tupA pins s σ H _ v vl vu lo hi sl Q I rx hs pl pu ⟨a, xs, rfl, l.sq, fun h => q _ H Al.refl (.mkTup l ?_), fun h p n => q _ _ (Al.new n) (.newTup hm n (r.cut lo hi))⟩
    have c := r.cut lo hi
    have e : cutV xs lo hi = xs := by
      unfold cutV
      rw [h.1, h.2, List.drop_zero, Nat.sub_zero, List.take_length]
    rw [e] at c
    exact c
  · obtain ⟨hl, e⟩ := some_if e
    subst e
    exact sl_str pins s σ H x v vl vu lo hi sl Q I rx hs pl pu ⟨_, px.str, lenLine hl, q _ H Al.refl .mkStr⟩
  · cases e
def fSlice (F : Fe Opd) (L U : Fe (Option Int)) : Fe D := fun δ => (F δ).bind fun o δ1 => (L δ1).bind fun l δ2 => (U δ2).bind fun u δ3 => R.of ((opd δ3 o).bind fun d => sliceF d l u) δ3
theorem de_slice {e : Expr} {lo hi : Option Expr} {p2 pos : Pos} {F : Fe Opd} {L U : Fe (Option Int)} (he : DP X W e F) (hl : DPt X W lo L) (hu : DPt X W hi U) : DE X W (.Subscript e (.Slice lo hi none p2) pos) (fSlice F L U) := by
  refine PE.imp (pe_slice sl_D he hl hu) fun σ H Q q => ?_
  obtain ⟨Mi, δ, R, q⟩ := tG_bind2 (P := pO X) (P2 := pPt) (F2 := L) stays_O q
  refine ⟨Mi, δ, R, q.imp fun v H1 q1 => ?_⟩
  obtain ⟨Mi, δ, R, q1⟩ := q1
  refine ⟨Mi, δ, R, q1.imp fun l H2 ⟨Mi, a, b, δ2, R2, p1, p2, r⟩ => ?_⟩
  refine ⟨Mi, δ2, R2, (RunG.bind (P := pPt) r).imp fun u H3 ⟨c, δ3, g3, p3, r3⟩ => ?_⟩
  have e2 : l = b := p2
  have e3 : u = c := p3
  subst e2 e3
  have p13 := stays_O _ _ _ _ _ _ _ _ R2 g3 p1
  cases eo : opd δ3 a with
  | none =>
    rw [eo] at r3
    exact False.elim r3
  | some d =>
    rw [eo] at r3
    have r4 : RunG X W (pD X) Mi σ H3 δ3 (Dl.R.of (sliceF d l u) δ3) Q := r3
    cases es : sliceF d l u with
    | none =>
      rw [es] at r4
      exact False.elim r4
    | some x =>
      rw [es] at r4
      exact ⟨_, d, x, fun a z => g3.rep.dom' z, opd_pk rfl g3.rep p13 eo, es, fun v H' al dv => r4 v H' (Go.al g3.rep al) dv⟩

/-! ### methods of built-in types -/
def rM (K : PySem.W.Frag) (g : D → List D → Option D) : V → List V → Hp → VK → Prop := fun x xs H Q =>
  ∃ (M : Msk) (d : D) (ds : List D) (r : D), (∀ a, M a → H a ≠ none) ∧ Pk K M H d x ∧ PkAll K M H ds xs ∧ g d ds = some r ∧ ∀ v H', Al H H' → Dat K M H' r v → Q v H'
def fMeth (T : String) (g : D → List D → Option D) (F : Fe Opd) (G : Fe (List Opd)) : Fe D := fun δ => (F δ).bind fun o δ1 =>
  if (opd δ1 o).map tyN = some T ∧ (T = "str" ∨ T = "list" ∨ T = "dict") then (G δ1).bind fun os δ2 => R.of ((opd δ2 o).bind fun d => (opds δ2 os).bind (g d)) δ2 else .bad
theorem pk_tyV {M : Msk} {H : Hp} {d : D} {v : V} {T : String} (h : Pk X.K M H d v) (e : tyN d = T) (hT : T = "str" ∨ T = "list") : tyV X.K T v H := by
  cases d with
  | str s =>
    rw [h.str]
    exact e.symm
  | list ds =>
    obtain ⟨a, xs, rfl, l, _⟩ := h.list
    exact .inl ⟨e.symm, xs, l.sq⟩
  | none => subst e; exact absurd hT (show ¬ (("NoneType" : String) = "str" ∨ ("NoneType" : String) = "list") by decide)
  | bool _ => subst e; exact absurd hT (show ¬ (("bool" : String) = "str" ∨ ("bool" : String) = "list") by decide)
  | int _ => subst e; exact absurd hT (show ¬ (("int" : String) = "str" ∨ ("int" : String) = "list") by decide)
  | tuple _ => subst e; exact absurd hT (show ¬ (("tuple" : String) = "str" ∨ ("tuple" : String) = "list") by decide)
  | dict _ => subst e; exact absurd hT (show ¬ (("dict" : String) = "str" ∨ ("dict" : String) = "list") by decide)
theorem meth_rd {T : String} {g : D → List D → Option D} {F : Fe Opd} {G : Fe (List Opd)} {Q : VK} (hT : T = "str" ∨ T = "list") (q : tG X W (pD X) (fMeth T g F G) σ H Q) : tBM X.K T (rM X.K g) (tG X W (pO X) F) (tG X W (pL X) G) σ H Q := by
  obtain ⟨Mi, δ, R, q⟩ := tG_bind (P := pO X) q
  refine ⟨Mi, δ, R, q.imp fun v H1 ⟨Mi, o, δ1, R1, p1, r⟩ => ?_⟩
  split at r
  · rename_i ht
    obtain ⟨ht, _⟩ := ht
    obtain ⟨d0, ed, et⟩ := Option.map_eq_some_iff.mp ht
    refine ⟨pk_tyV (opd_pk rfl R1 p1 ed) et hT, Mi, δ1, R1, (RunG.bind (P := pL X) r).imp fun xs H2 ⟨os, δ2, g2, p2, r2⟩ => ?_⟩
    have p12 := stays_O _ _ _ _ _ _ _ _ R1 g2 p1
    cases eo : opd δ2 o with
    | none =>
      rw [eo] at r2
      exact False.elim r2
    | some d =>
      rw [eo] at r2
      cases es : opds δ2 os with
      | none =>
        rw [es] at r2
        exact False.elim r2
      | some ds =>
        rw [es] at r2
        have r3 : RunG X W (pD X) Mi σ H2 δ2 (Dl.R.of (g d ds) δ2) Q := r2
        cases eg : g d ds with
        | none =>
          rw [eg] at r3
          exact False.elim r3
        | some x =>
          rw [eg] at r3
          exact ⟨_, d, ds, x, fun a z => g2.rep.dom' z, opd_pk rfl g2.rep p12 eo, opds_pk g2.rep p2 es, eg, fun v H' al dv => r3 v H' (Go.al g2.rep al) dv⟩
  · exact False.elim r
theorem de_meth {T id : String} {g : D → List D → Option D} {o e : Expr} {es : List Expr} {name : Str} {apos cpos : Pos} {F : Fe Opd} {G : Fe (List Opd)} (hT : T = "str" ∨ T = "list") (pa : PlainAttrs T) (slot : Slot T name id) (hty : typeOf (.builtin id) = pure (.type "method_descriptor")) (hm : MtR X id (rM X.K g)) (ho : DP X W o F) (ha : DL X W (e :: es) G)
    (hbase : attributeBase o name X.env (eval o X.env) = eval o X.env := by rfl)
    (hfew : ((backTo cpos (starEach (e :: es) X.env)).all (fun x => !x.1) && (backToKw cpos (keywordEach [] X.env)).all (fun x => x.1.isSome)
      && decide ((e :: es).length + ([] : List Keyword).length + (if ([] : List Keyword).isEmpty then 0 else 1) < 30)) = true := by rfl)
    (hline : (apos.endLine == cpos.line) = true := by rfl) (hs : starEach (e :: es) X.env = (false, eval e X.env) :: starEach es X.env := by rfl) (hplain : (backTo cpos (starEach es X.env)).any (·.1) = false := by rfl) :
    DE X W (.Call (.Attribute o name apos) (e :: es) [] cpos) (fMeth T g F G) :=
  PE.imp (pe_bm pa slot hty hm ho ha hbase hfew hline hs hplain) fun _ _ _ q => meth_rd hT q
/-! texts' -/
theorem DatAll.strs {K : PySem.W.Frag} {M : Msk} {H : Hp} : ∀ (ys : List Str), DatAll K M H (ys.map .str) (ys.map V.str)
  | [] => .nil
  | y :: ys => .cons .mkStr (DatAll.strs ys)
def strsOf : List D → Option (List Str)
  | [] => some []
  | .str x :: r => (strsOf r).map (x :: ·)
  | _ => none
theorem strsOf_eq : ∀ {ds : List D} {ys : List Str}, strsOf ds = some ys → ds = ys.map .str
  | [], _, e => by cases e; rfl
  | .str b :: r, _, e => by
    simp only [strsOf] at e
    obtain ⟨bs, h, rfl⟩ := Option.map_eq_some_iff.mp e
    rw [strsOf_eq h]
    rfl
  | .none :: _, _, e => by simp [strsOf] at e
  | .int _ :: _, _, e => by simp [strsOf] at e
  | .bool _ :: _, _, e => by simp [strsOf] at e
  | .list _ :: _, _, e => by simp [strsOf] at e
  | .tuple _ :: _, _, e => by simp [strsOf] at e
  | .dict _ :: _, _, e => by simp [strsOf] at e
theorem DatAll.strs_inv {K : PySem.W.Frag} {M : Msk} {H : Hp} : ∀ {ys : List Str} {vs : List V}, DatAll K M H (ys.map .str) vs → vs = ys.map V.str
  | [], _, h => h.nil_inv
  | b :: bs, _, h => by
    obtain ⟨v, r, rfl, h1, h2⟩ := h.cons_inv
    simp only [Dat] at h1
    rw [h1, DatAll.strs_inv h2]
    rfl
def joinM : D → List D → Option D
  | .str a, [.list ds] => (strsOf ds).bind fun ys => if (ys.map (·.length)).sum + ys.length * a.length ≤ 1000000 then some (.str (Txt.join a ys)) else none
  | .str a, [.tuple ds] => (strsOf ds).bind fun ys => if (ys.map (·.length)).sum + ys.length * a.length ≤ 1000000 then some (.str (Txt.join a ys)) else none
  | _, _ => none
theorem mt_joinD : MtR X "str.join" (rM X.K joinM) := by
  intro pins s σ H x xs v us Q I rx rs ⟨M, d, ds, r, hm, px, ps, e, q⟩
  unfold joinM at e
  split at e
  · obtain ⟨ys, ey, e⟩ := Option.bind_eq_some_iff.mp e
    obtain ⟨hl, e⟩ := some_if e
    subst e
    obtain ⟨w, rfl, pw⟩ := PkAll.one (ds := []) (v := .non) ps
    obtain ⟨a, zs, rfl, l, rr⟩ := pw.list
    rw [strsOf_eq ey] at rr
    have ez := rr.strs_inv
    subst ez
    exact mt_join pins s σ H x _ v us Q I rx rs ⟨_, a, ys, px.str, rfl, .inl l.sq, Nat.le_trans hl (by decide), q _ H Al.refl .mkStr⟩
  · obtain ⟨ys, ey, e⟩ := Option.bind_eq_some_iff.mp e
    obtain ⟨hl, e⟩ := some_if e
    subst e
    obtain ⟨w, rfl, pw⟩ := PkAll.one (ds := []) (v := .non) ps
    obtain ⟨a, zs, rfl, l, rr⟩ := pw.tuple
    rw [strsOf_eq ey] at rr
    have ez := rr.strs_inv
    subst ez
    exact mt_join pins s σ H x _ v us Q I rx rs ⟨_, a, ys, px.str, rfl, .inr l.sq, Nat.le_trans hl (by decide), q _ H Al.refl .mkStr⟩
  · cases e
/-! max, min of two ints -/
def maxF : List D → Option D
  | [.int i, .int j] => some (.int (if j > i then j else i))
  | _ => none
def minF : List D → Option D
  | [.int i, .int j] => some (.int (if j < i then j else i))
  | _ => none
theorem call_minD (hc : X.calm = true) : CallR X (.builtin "min") (rC X.K minF) := by
  intro pins s σ H xs us Q I r ⟨M, ds, d, hm, ps, e, q⟩
  unfold minF at e
  split at e
  · cases e
    obtain ⟨v, u, rfl, p1, p2⟩ := PkAll.two ps
    exact call_min2 hc pins s σ H _ us Q I r ⟨_, _, by rw [p1.int, p2.int], q _ H Al.refl .mkInt⟩
  · cases e
end
end Dl

set_option Elab.async false
set_option linter.all false
set_option maxRecDepth 100000
namespace Dl
open PySem PySem.Spec PyProof.Rows L2
variable [Reg] [TabC]
section
variable {X : Cx} {W : WX} {Mi : Msk} {σ : St} {H H1 : Hp} {δ δ1 : DEnv}
/-- xs[::-1] -/
def revF : D → Option D
  | .list ds => some (.list ds.reverse)
  | _ => none
end

/-! ### the law's end -/
theorem funOf {K : PySem.W.Frag} {x q : Str} {st : Stmt} {f : Addr} {fd : FuncData} (F : FunD K x q (defArgs st) (defBody st) (defScope st) [] [] f fd) : Fun K x q st f fd := by
  obtain ⟨oc, od, dV, kV, doc, pm, an, cdv, ct, osl, e, lk, hc, hd, hk⟩ := F.ex
  rcases hd with ⟨_, rfl⟩ | ⟨z, _⟩
  · exact ⟨⟨oc, od, kV, doc, pm, an, cdv, ct, osl, e, lk, hc⟩, F.kp⟩
  · exact absurd rfl z
def scriptD (ns : List Int) : D := .list (ns.map .int)
theorem noExc {P : Program} {w : World} {H : Hp} {s s' : Shared} {e : Value} (h : L2.CX P w [] H s (fun _ _ _ => False) e s') : False := by
  obtain ⟨_, _, _, _, _, _, _, _, _, _, _, _, z⟩ := h
  exact z
end Dl
namespace Dl
open PySem PySem.Spec PyProof.Rows L2
variable [TabC]
end Dl

set_option Elab.async false
set_option linter.all false
set_option maxRecDepth 100000
namespace Dl
open PySem PySem.Spec PyProof.Rows L2
variable [Reg] [TabC]
section
variable {X : Cx} {W : WX} {Mi : Msk} {σ : St} {H H1 : Hp} {δ δ1 : DEnv} {Fv : Fe D} {pos : Pos} {e : Expr}
/-- an operand by a datum -/
def fOf (F : Fe D) : Fe Opd := fun δ => (F δ).bind fun d δ' => .ok (.tmp d) δ'
theorem dp_o (h : DE X W e Fv) : DP X W e (fOf Fv) := dp_of h
/-! ### walks over lists, tuples, texts alike -/
def signsD (z : Str) : List D := z.cps.toList.map fun c => .str ⟨#[c]⟩
def anyI : D → DEnv → R (List D)
  | .list ds, δ => .ok ds δ
  | .tuple ds, δ => .ok ds δ
  | .str z, δ => .ok (signsD z) δ
  | _, _ => .bad
def iAny (F : Fe D) : Fe (List D) := fun δ => (F δ).bind anyI
def tSeqI (K : PySem.W.Frag) (tl : TE) : TI := fun σ H R => tl σ H fun x H1 => (∃ a xs, x = .ref a ∧ SqL K H1 a xs ∧ R (Itl K a) H1) ∨ (∃ a xs, x = .ref a ∧ SqT K H1 a xs ∧ R (Itt K a) H1) ∨ ∃ z, x = .str z ∧ R (Its z) H1
theorem pi_seq {tg l : Expr} {tl : TE} (hl : PE X l tl) : PI X tg l (tSeqI X.K tl) := by
  constructor
  intro pins s σ H R I h
  refine thn (hl.run pins s σ H _ I h) fun v s1 z => ?_
  obtain ⟨x, H1, I1, r1, q1⟩ := z
  rcases q1 with ⟨a, xs, rfl, sq, q⟩ | ⟨a, xs, rfl, sq, q⟩ | ⟨z, rfl, q⟩
  · cases r1
    obtain ⟨its, _, p, _⟩ := I1.list sq
    exact wpAny_pyIter_list p.isList (pi_one (tk := s1.toks) I1 _ (turn_list a _) ⟨_, Heap.get?_push_size _ rfl, rfl, rfl⟩ q)
  · cases r1
    obtain ⟨its, _, p, _⟩ := I1.tuple sq
    exact wpAny_pyIter_tuple (show s1.heap.IsTuple a its.toArray from p) (pi_one (tk := s1.toks) I1 _ (turn_tuple a _) ⟨_, Heap.get?_push_size _ rfl, rfl, rfl⟩ q)
  · obtain ⟨t, rfl⟩ := r1
    cases asc : z.cps.all (· < 128) with
    | false => exact wpAny_pyIter_wide asc (pi_one (tk := s1.toks) I1 _ (turn_str _ z t "str_iterator" (.inr rfl)) ⟨_, Heap.get?_push_size _ rfl, rfl, rfl⟩ q)
    | true => exact wpAny_pyIter_ascii asc (pi_one (tk := s1.toks) I1 _ (turn_str _ z t "str_ascii_iterator" (.inl rfl)) ⟨_, Heap.get?_push_size _ rfl, rfl, rfl⟩ q)
theorem its_R {M : Msk} {z : Str} : ItR X M H (Its z) (signsD z) := by
  intro M' H' _ _
  have len : (signsD z).length = z.cps.size := by
    unfold signsD
    rw [List.length_map, Array.length_toList]
  refine ⟨fun i d e => ?_, by rw [len]; exact Nat.le_refl _⟩
  unfold signsD at e
  rw [List.getElem?_map] at e
  obtain ⟨c, hc, rfl⟩ := Option.map_eq_some_iff.mp e
  rw [Array.getElem?_toList] at hc
  have lt : i < z.cps.size := (Array.getElem?_eq_some_iff.mp hc).1
  refine ⟨lt, fun x H'' y => ?_⟩
  obtain ⟨rfl, c', hc', rfl⟩ := y
  rw [hc] at hc'
  cases hc'
  exact ⟨Al.refl, .mkStr⟩
theorem any_rd {Q : It → Hp → Prop} (q : tG X W (pI X) (iAny Fv) σ H Q) : tSeqI X.K (tG X W (pD X) Fv) σ H Q := by
  obtain ⟨Mi, δ, R, q⟩ := tG_bind (P := pD X) q
  refine ⟨Mi, δ, R, q.imp fun v H1 ⟨Mi, d, δ1, R1, p, r⟩ => ?_⟩
  have p' : Dat X.K (msk Mi σ δ1) H1 d v := p
  cases d with
  | list ds =>
    simp only [Dat] at p'
    obtain ⟨a, xs, rfl, l, rr⟩ := p'
    exact .inl ⟨a, xs, rfl, l.sq, r _ H1 (Go.refl R1) (itl_R l rr)⟩
  | tuple ds =>
    simp only [Dat] at p'
    obtain ⟨a, xs, rfl, l, rr⟩ := p'
    exact .inr (.inl ⟨a, xs, rfl, l.sq, r _ H1 (Go.refl R1) (itt_R l rr)⟩)
  | str z =>
    have e : v = .str z := by simpa only [Dat] using p'
    exact .inr (.inr ⟨z, e, r _ H1 (Go.refl R1) its_R⟩)
  | _ => exact False.elim r
theorem di_any {tg iter : Expr} (h : DE X W iter Fv) : DI X W tg iter (iAny Fv) := PI.imp (pi_seq h) fun _ _ _ q => any_rd q

/-! ### x op= e -/
/-- of ints -/
def sAugN (i : Nat) (f : Int → Int → Int) (F : Fe D) : Fs := fun δ =>
  match peek δ i with
  | some (.int x) => (F δ).bindS fun d δ1 =>
    match d with
    | .int y => if free δ1 i = true then .next (δ1.set i (some (.val (.int (f x y))))) else .bad
    | _ => .bad
  | _ => .bad
theorem Ok.blk {k : Nat} {s : Shared} {scope : Scope} {ce : Env} {fp : List Addr} (o : Ok X k) : Ok (X.blk s H scope ce fp) k := ⟨o.room, o.gd⟩
/-- x[i] = e, x a slot -/
theorem ds_itemV {v : Nat} {x : Str} {i : Expr} {p p2 : Pos} {Fi : Fe D} (hN : X.N[v]? = some x) (hv : Vis X.env.scope x) (hi : DE X W i Fi) (h : DE X W e Fv) (hs : swapsWithSole [.Subscript (.Name x p) i p2] e pos.line X.env = pure false := by rfl) (hw : swappedStores [.Subscript (.Name x p) i p2] e X.env = pure none := by rfl)
    (h1 : (assignEach [.Subscript (.Name x p) i p2] X.env).map (fun x => x.2) = [assign (.Subscript (.Name x p) i p2) X.env] := by rfl)
    (ha : ∀ u, assign (.Subscript (.Name x p) i p2) X.env u = (do
      let ov ← holding [u] (eval (.Name x p) X.env)
      let iv ← holding [u, ov] (eval i X.env)
      standAt p2
      holding [u, ov, iv] (setItem ov iv u)
      release [u, ov, iv] []) := by intro _; rfl)
    (hd : (x == ("__debug__" : Str)) = false := by decide +kernel) (hcd : (x == ("__classdict__" : Str)) = false := by decide +kernel) :
    DS X W (.Assign [.Subscript (.Name x p) i p2] e pos) (sItem v Fi Fv) :=
  ds_item hN hv hi h hs hw h1 (pg_sub (pe_var hN hv hd hcd) hi set_list ha)
/-- x = [E for ..], on one line: the name is stored within the comprehension's frame -/
theorem ds_setLc {i : Nat} {y : Str} {py : Pos} {elt tg iter : Expr} {ifs : List Expr} {scope : Scope} {own : List (Str × Nat)} {sl : List Nat} {p2 spos : Pos} {I : Fe (List D)} {B : Bd} {T : Fe Bool} {E : Fe D}
    (hc : X.calm = true) (hN : X.N.Nodup) (hy : X.N[i]? = some y) (hyl : X.env.scope.names.lookup y = some .local) (hk : X.env.scope.kind = .function) (hl : (py.line == p2.line) = true) (hno : (scope.names.any fun q => q.1 == y && (q.2 == .local || q.2 == .cell)) = false)
    (hi : DI X W tg iter I) (ok : BlkOk X.N X.env.scope scope own) (hs : ∀ j ∈ sl, j ∈ own.map (·.2))
    (hg : ∀ (s : Shared) (H : Hp) (C : Addr) (cl : List (Str × Addr)) (fp : List Addr), DG (X.blk s H scope (compEnvC scope cl C X.env) fp) tg sl B)
    (ht : ∀ (s : Shared) (H : Hp) (C : Addr) (cl : List (Str × Addr)) (fp : List Addr), DTs (X.blk s H scope (compEnvC scope cl C X.env) fp) noW ifs T)
    (he : ∀ (s : Shared) (H : Hp) (C : Addr) (cl : List (Str × Addr)) (fp : List Addr), DE (X.blk s H scope (compEnvC scope cl C X.env) fp) noW elt E) (hf : ∀ x, foldedSetIterable iter X.env x = pure x := by intro _; rfl) :
    DS X W (.Assign [.Name y py] (.ListComp elt [⟨tg, iter, ifs, 0⟩] scope p2) spos) (sSetO i (fComp (own.map (·.2)) I B T E)) :=
  PS.imp (ps_setLc (g := tB1 X sl B) (tt := tG X noW pB T) (te := tG X noW (pD X) E) hc hN hy hyl (sw_true hk hyl hl hno) hi ok hg ht he hf) fun _ _ _ q => comp_rd hs (setO_rd q)
theorem takesN : Takes X noW := fun _ _ z => by
  obtain ⟨_, _, _, _, _, _, _, _, _, _, _, _, _, _, _, _, no⟩ := z
  exact no.elim
end
end Dl

set_option Elab.async false
set_option linter.all false
set_option maxRecDepth 100000
/-! Dl14: how mirrors are evaluated: stages without binders, for simp. -/
namespace Dl
open PySem PySem.Spec PyProof.Rows L2
section
variable {α β : Type} {δ : DEnv} {d d1 d2 : D}

/-! ### results -/
theorem bind_ok {a : α} {g : α → DEnv → R β} : R.bind (.ok a δ) g = g a δ := rfl
theorem bind_err {x : Exn} {g : α → DEnv → R β} : R.bind (.err x δ) g = .err x δ := rfl
theorem bindS_ok {a : α} {g : α → DEnv → RS} : R.bindS (.ok a δ) g = g a δ := rfl
theorem bindS_err {x : Exn} {g : α → DEnv → RS} : R.bindS (.err x δ) g = .err x δ := rfl
theorem of_some {a : α} : R.of (some a) δ = .ok a δ := rfl
/-! ### slots -/
/-- the content of a slot -/
def slot : DEnv → Nat → Option Cell
  | [], _ => none
  | x :: _, 0 => x
  | _ :: l, n + 1 => slot l n
theorem slot0 {x : Option Cell} {l : DEnv} : slot (x :: l) 0 = x := rfl
theorem slotS {x : Option Cell} {l : DEnv} {n : Nat} : slot (x :: l) (n + 1) = slot l n := rfl
theorem slot_eq : ∀ (δ : DEnv) (i : Nat), slot δ i = (δ[i]?).join
  | [], i => by simp [slot]
  | x :: l, 0 => by simp [slot]
  | x :: l, i + 1 => by simp [slot, slot_eq l i]
def rdC (i : Nat) (δ : DEnv) : Option Cell → R D
  | some (.val d) => .ok d δ
  | some (.own d) => .ok d (δ.set i (some (.val d)))
  | _ => .bad
theorem rdVar_e (i : Nat) : rdVar i δ = rdC i δ (slot δ i) := by
  rw [slot_eq]
  unfold rdVar
  cases h : δ[i]? with
  | none => rfl
  | some x => cases x with
    | none => rfl
    | some c => cases c <;> rfl
theorem rdC_val {i : Nat} : rdC i δ (some (.val d)) = .ok d δ := rfl
theorem rdC_own {i : Nat} : rdC i δ (some (.own d)) = .ok d (δ.set i (some (.val d))) := rfl
def cellD : Option Cell → Option D
  | some (.val d) => some d
  | some (.own d) => some d
  | some (.ref d) => some d
  | _ => none
theorem cellD_val : cellD (some (.val d)) = some d := rfl
theorem cellD_own : cellD (some (.own d)) = some d := rfl
theorem cellD_ref : cellD (some (.ref d)) = some d := rfl
theorem peek_e (i : Nat) : peek δ i = cellD (slot δ i) := by
  rw [slot_eq]
  unfold peek
  cases h : δ[i]? with
  | none => rfl
  | some x => cases x with
    | none => rfl
    | some c => cases c <;> rfl
def pkC (i : Nat) (δ : DEnv) : Option D → R Opd
  | some _ => .ok (.var i) δ
  | none => .bad
theorem pkVar_e (i : Nat) : pkVar i δ = pkC i δ (cellD (slot δ i)) := by
  rw [← peek_e]
  unfold pkVar pkC
  cases peek δ i <;> rfl
theorem pkC_some {i : Nat} : pkC i δ (some d) = .ok (.var i) δ := rfl
theorem opd_tmp : opd δ (.tmp d) = some d := rfl
theorem opd_var (i : Nat) : opd δ (.var i) = cellD (slot δ i) := by rw [← peek_e]; rfl
def lendC : Option Cell → Option D
  | some (.own d) => some d
  | some (.ref d) => some d
  | _ => none
theorem lend_e (i : Nat) : lendable δ i = lendC (slot δ i) := by
  rw [slot_eq]
  unfold lendable
  cases h : δ[i]? with
  | none => rfl
  | some x => cases x with
    | none => rfl
    | some c => cases c <;> rfl
theorem lendC_own : lendC (some (.own d)) = some d := rfl
theorem lendC_ref : lendC (some (.ref d)) = some d := rfl
/-- is the slot no lent one -/
def soft : Option Cell → Bool
  | some (.ref _) => false
  | some (.exc _ _ _) => false
  | _ => true
theorem soft_none : soft none = true := rfl
theorem soft_val : soft (some (.val d)) = true := rfl
theorem soft_own : soft (some (.own d)) = true := rfl
/-- a store -/
def stor : DEnv → Nat → Cell → Option DEnv
  | [], _, _ => none
  | x :: l, 0, c => if soft x = true then some (some c :: l) else none
  | x :: l, n + 1, c => (stor l n c).map (x :: ·)
theorem stor_e {c : Cell} : ∀ (δ : DEnv) (i : Nat), stor δ i c = if free δ i = true then some (δ.set i (some c)) else none
  | [], i => by simp [stor, free]
  | x :: l, 0 => by
    have e : isRef ((x :: l)[0]?) = !soft x := by
      cases x with
      | none => rfl
      | some k => cases k <;> rfl
    simp only [stor, free, e, List.length_cons, Bool.not_not]
    simp
  | x :: l, i + 1 => by
    have e : free (x :: l) (i + 1) = free l i := by simp [free]
    rw [e, stor, stor_e l i]
    split <;> simp
theorem stor_hit {x : Option Cell} {l : DEnv} {c : Cell} (h : soft x = true) : stor (x :: l) 0 c = some (some c :: l) := by
  simp [stor, h]
theorem stor_n {l : DEnv} {c : Cell} : stor (none :: l) 0 c = some (some c :: l) := rfl
theorem stor_v {l : DEnv} {c : Cell} : stor (some (.val d) :: l) 0 c = some (some c :: l) := rfl
theorem stor_o {l : DEnv} {c : Cell} : stor (some (.own d) :: l) 0 c = some (some c :: l) := rfl
theorem stor_next {x : Option Cell} {l : DEnv} {n : Nat} {c : Cell} : stor (x :: l) (n + 1) c = (stor l n c).map (x :: ·) := rfl
theorem map_some' {l : DEnv} {x : Option Cell} : (some l).map (x :: ·) = some (x :: l) := rfl

/-! ### expressions -/
theorem fC_e : fC d δ = .ok d δ := rfl
def ofK (d : D) (δ : DEnv) : R Opd := .ok (.tmp d) δ
theorem fOf_e (F : Fe D) : fOf F δ = (F δ).bind ofK := rfl
theorem ofK_e : ofK d δ = .ok (.tmp d) δ := rfl
def op2 (f : D → D → Option D) : Option D → Option D → Option D
  | some a, some b => f a b
  | _, _ => none
theorem op2_e {f : D → D → Option D} : op2 f (some d1) (some d2) = f d1 d2 := rfl
def bin1 (f : D → D → Option D) (G : Fe Opd) (a : Opd) (δ : DEnv) : R D := (G δ).bind fun b δ2 => R.of (op2 f (opd δ2 a) (opd δ2 b)) δ2
def bin2 (f : D → D → Option D) (a b : Opd) (δ : DEnv) : R D := R.of (op2 f (opd δ a) (opd δ b)) δ
theorem op2_bind {f : D → D → Option D} {x y : Option D} : (x.bind fun da => y.bind fun db => f da db) = op2 f x y := by
  cases x with
  | none => rfl
  | some a => cases y <;> rfl
theorem fBin_e (f : D → D → Option D) (F G : Fe Opd) : fBin f F G δ = (F δ).bind (bin1 f G) := by
  unfold fBin
  congr 1
  funext a δ1
  unfold bin1
  congr 1
  funext b δ2
  rw [op2_bind]
theorem bin1_e (f : D → D → Option D) (G : Fe Opd) (a : Opd) : bin1 f G a δ = (G δ).bind (bin2 f a) := rfl
theorem bin2_e (f : D → D → Option D) (a b : Opd) : bin2 f a b δ = R.of (op2 f (opd δ a) (opd δ b)) δ := rfl
def op1 (f : D → Option D) : Option D → Option D
  | some a => f a
  | none => none
theorem op1_e {f : D → Option D} : op1 f (some d) = f d := rfl
def un1 (f : D → Option D) (a : Opd) (δ : DEnv) : R D := R.of (op1 f (opd δ a)) δ
theorem fUn_e (f : D → Option D) (F : Fe Opd) : fUn f F δ = (F δ).bind (un1 f) := by
  unfold fUn
  congr 1
  funext a δ1
  unfold un1
  cases opd δ1 a <;> rfl
theorem un1_e (f : D → Option D) (a : Opd) : un1 f a δ = R.of (op1 f (opd δ a)) δ := rfl
theorem fNil_e : fNil δ = .ok [] δ := rfl
def cons2 (d : D) (ds : List D) (δ : DEnv) : R (List D) := .ok (d :: ds) δ
def cons1 (G : Fe (List D)) (d : D) (δ : DEnv) : R (List D) := (G δ).bind (cons2 d)
theorem fCons_e (F : Fe D) (G : Fe (List D)) : fCons F G δ = (F δ).bind (cons1 G) := rfl
theorem cons1_e (G : Fe (List D)) (d : D) : cons1 G d δ = (G δ).bind (cons2 d) := rfl
theorem cons2_e (d : D) (ds : List D) : cons2 d ds δ = .ok (d :: ds) δ := rfl
theorem apCons_e (F : Fe D) (G : Fe (List D)) : apCons F G δ = (F δ).bind (cons1 G) := rfl
def tup1 (ds : List D) (δ : DEnv) : R D := R.of (okLen ds (.tuple ds)) δ
def lst1 (ds : List D) (δ : DEnv) : R D := R.of (okLen ds (.list ds)) δ
theorem fTup_e (F : Fe (List D)) : fTup F δ = (F δ).bind tup1 := rfl
theorem fLst_e (F : Fe (List D)) : fLst F δ = (F δ).bind lst1 := rfl
theorem tup1_e (ds : List D) (h : ds.length ≤ 1000000) : tup1 ds δ = .ok (.tuple ds) δ := by
  unfold tup1 okLen
  rw [if_pos h]
  rfl
theorem lst1_e (ds : List D) (h : ds.length ≤ 1000000) : lst1 ds δ = .ok (.list ds) δ := by
  unfold lst1 okLen
  rw [if_pos h]
  rfl
theorem lNil_e : lNil δ = .ok [] δ := rfl
def lc2' (d : Opd) (ds : List Opd) (δ : DEnv) : R (List Opd) := .ok (d :: ds) δ
def lc1' (G : Fe (List Opd)) (d : Opd) (δ : DEnv) : R (List Opd) := (G δ).bind (lc2' d)
theorem lCons_e (F : Fe Opd) (G : Fe (List Opd)) : lCons F G δ = (F δ).bind (lc1' G) := rfl
theorem lc1_e (G : Fe (List Opd)) (d : Opd) : lc1' G d δ = (G δ).bind (lc2' d) := rfl
theorem lc2_e (d : Opd) (ds : List Opd) : lc2' d ds δ = .ok (d :: ds) δ := rfl
def opL (δ : DEnv) : List Opd → Option (List D)
  | [] => some []
  | o :: os => op2L (opd δ o) (opL δ os)
where op2L : Option D → Option (List D) → Option (List D)
  | some d, some ds => some (d :: ds)
  | _, _ => none
theorem opds_e : ∀ os : List Opd, opds δ os = opL δ os
  | [] => rfl
  | o :: os => by
    unfold opds opL
    rw [opds_e os]
    cases opd δ o with
    | none => rfl
    | some d => cases opL δ os <;> rfl
theorem opL_nil : opL δ [] = some [] := rfl
theorem opL_cons (o : Opd) (os : List Opd) : opL δ (o :: os) = opL.op2L (opd δ o) (opL δ os) := rfl
theorem op2L_e {ds : List D} : opL.op2L (some d) (some ds) = some (d :: ds) := rfl
def opN (f : List D → Option D) : Option (List D) → Option D
  | some ds => f ds
  | none => none
theorem opN_e {f : List D → Option D} {ds : List D} : opN f (some ds) = f ds := rfl
def call1 (f : List D → Option D) (os : List Opd) (δ : DEnv) : R D := R.of (opN f (opL δ os)) δ
theorem fCall_e (f : List D → Option D) (F : Fe (List Opd)) : fCall f F δ = (F δ).bind (call1 f) := by
  unfold fCall
  congr 1
  funext a δ1
  unfold call1
  rw [opds_e]
  cases opL δ1 a <;> rfl
theorem call1_e (f : List D → Option D) (os : List Opd) : call1 f os δ = R.of (opN f (opL δ os)) δ := rfl
def isi1 (T : String) (o : Opd) (δ : DEnv) : R D := R.of (op1 (fun d => some (.bool (isiB T d))) (opd δ o)) δ
theorem fIsi_e (T : String) (F : Fe Opd) : fIsi T F δ = (F δ).bind (isi1 T) := by
  unfold fIsi
  congr 1
  funext a δ1
  unfold isi1
  cases opd δ1 a <;> rfl
theorem isi1_e (T : String) (o : Opd) : isi1 T o δ = R.of (op1 (fun d => some (.bool (isiB T d))) (opd δ o)) δ := rfl
def meth2 (g : D → List D → Option D) (o : Opd) (os : List Opd) (δ : DEnv) : R D := R.of (opM g (opd δ o) (opL δ os)) δ
where opM (g : D → List D → Option D) : Option D → Option (List D) → Option D
  | some d, some ds => g d ds
  | _, _ => none
def tyO : Option D → Option String
  | some d => some (tyN d)
  | none => none
def meth1 (T : String) (g : D → List D → Option D) (G : Fe (List Opd)) (o : Opd) (δ : DEnv) : R D :=
  if tyO (opd δ o) = some T ∧ (T = "str" ∨ T = "list" ∨ T = "dict") then (G δ).bind (meth2 g o) else .bad
theorem fMeth_e (T : String) (g : D → List D → Option D) (F : Fe Opd) (G : Fe (List Opd)) : fMeth T g F G δ = (F δ).bind (meth1 T g G) := by
  unfold fMeth
  congr 1
  funext o δ1
  unfold meth1
  have e : (opd δ1 o).map tyN = tyO (opd δ1 o) := by cases opd δ1 o <;> rfl
  rw [e]
  split
  · congr 1
    funext os δ2
    unfold meth2
    rw [opds_e]
    cases opd δ2 o with
    | none => rfl
    | some d => cases opL δ2 os <;> rfl
  · rfl
def methT (T : String) (g : D → List D → Option D) (G : Fe (List Opd)) (o : Opd) (δ : DEnv) (x : Option D) : R D :=
  if tyO x = some T ∧ (T = "str" ∨ T = "list" ∨ T = "dict") then (G δ).bind (meth2 g o) else .bad
theorem meth1_e {T : String} {g : D → List D → Option D} {G : Fe (List Opd)} {o : Opd} : meth1 T g G o δ = methT T g G o δ (opd δ o) := rfl
theorem methT_s {g : D → List D → Option D} {G : Fe (List Opd)} {o : Opd} {z : Str} : methT "str" g G o δ (some (.str z)) = (G δ).bind (meth2 g o) := if_pos ⟨rfl, .inl rfl⟩
theorem methT_l {g : D → List D → Option D} {G : Fe (List Opd)} {o : Opd} {z : List D} : methT "list" g G o δ (some (.list z)) = (G δ).bind (meth2 g o) := if_pos ⟨rfl, .inr (.inl rfl)⟩
theorem meth2_e {g : D → List D → Option D} {o : Opd} {os : List Opd} : meth2 g o os δ = R.of (meth2.opM g (opd δ o) (opL δ os)) δ := rfl
theorem opM_e {g : D → List D → Option D} {ds : List D} : meth2.opM g (some d) (some ds) = g d ds := rfl
def sl3 (o : Opd) (l u : Option Int) (δ : DEnv) : R D := R.of (op1 (fun d => sliceF d l u) (opd δ o)) δ
def sl2 (U : Fe (Option Int)) (o : Opd) (l : Option Int) (δ : DEnv) : R D := (U δ).bind (sl3 o l)
def sl1 (L U : Fe (Option Int)) (o : Opd) (δ : DEnv) : R D := (L δ).bind (sl2 U o)
theorem fSlice_e (F : Fe Opd) (L U : Fe (Option Int)) : fSlice F L U δ = (F δ).bind (sl1 L U) := by
  unfold fSlice
  congr 1
  funext o δ1
  unfold sl1
  congr 1
  funext l δ2
  unfold sl2
  congr 1
  funext u δ3
  unfold sl3
  cases opd δ3 o <;> rfl
theorem sl1_e (L U : Fe (Option Int)) (o : Opd) : sl1 L U o δ = (L δ).bind (sl2 U o) := rfl
theorem sl2_e (U : Fe (Option Int)) (o : Opd) (l : Option Int) : sl2 U o l δ = (U δ).bind (sl3 o l) := rfl
theorem sl3_e (o : Opd) (l u : Option Int) : sl3 o l u δ = R.of (op1 (fun d => sliceF d l u) (opd δ o)) δ := rfl
theorem ptNone_e : ptNone δ = .ok none δ := rfl
theorem ptSome_e (F : Fe D) : ptSome F δ = (F δ).bind toPt := rfl
theorem toPt_e {i : Int} : toPt (.int i) δ = .ok (some i) δ := rfl
theorem toB_e {b : Bool} : toB (.bool b) δ = .ok b δ := rfl
theorem fB_e (F : Fe D) : fB F δ = (F δ).bind toB := rfl
def ch4 (g : D → D → Option D) (b c : Opd) (δ : DEnv) : R D := R.of (op2 g (opd δ b) (opd δ c)) δ
def ch3 (g : D → D → Option D) (J : Fe Opd) (b : Opd) (k : Bool) (δ : DEnv) : R D := if k = true then (J δ).bind (ch4 g b) else .ok (.bool false) δ
def ch2 (f g : D → D → Option D) (J : Fe Opd) (a b : Opd) (δ : DEnv) : R D := ((R.of (op2 f (opd δ a) (opd δ b)) δ).bind toB).bind (ch3 g J b)
def ch1 (f g : D → D → Option D) (G J : Fe Opd) (a : Opd) (δ : DEnv) : R D := (G δ).bind (ch2 f g J a)
theorem fChain_e (f g : D → D → Option D) (F G J : Fe Opd) : fChain f g F G J δ = (F δ).bind (ch1 f g G J) := by
  unfold fChain
  congr 1
  funext a δ1
  unfold ch1
  congr 1
  funext b δ2
  unfold ch2
  rw [op2_bind, R.bind_assoc]
  congr 1
  funext d δ3
  congr 1
  funext k δ4
  unfold ch3
  split
  · congr 1
    funext c δ5
    unfold ch4
    rw [op2_bind]
  · rfl
theorem ch1_e (f g : D → D → Option D) (G J : Fe Opd) (a : Opd) : ch1 f g G J a δ = (G δ).bind (ch2 f g J a) := rfl
theorem ch2_e (f g : D → D → Option D) (J : Fe Opd) (a b : Opd) : ch2 f g J a b δ = ((R.of (op2 f (opd δ a) (opd δ b)) δ).bind toB).bind (ch3 g J b) := rfl
theorem ch3_t (g : D → D → Option D) (J : Fe Opd) (b : Opd) : ch3 g J b true δ = (J δ).bind (ch4 g b) := rfl
theorem ch3_f (g : D → D → Option D) (J : Fe Opd) (b : Opd) : ch3 g J b false δ = .ok (.bool false) δ := rfl
theorem ch4_e (g : D → D → Option D) (b c : Opd) : ch4 g b c δ = R.of (op2 g (opd δ b) (opd δ c)) δ := rfl
def and1 (G : Fe Bool) (b : Bool) (δ : DEnv) : R Bool := if b = true then G δ else .ok false δ
def or1 (G : Fe Bool) (b : Bool) (δ : DEnv) : R Bool := if b = true then .ok true δ else G δ
def not1 (b : Bool) (δ : DEnv) : R Bool := .ok (!b) δ
theorem fAnd_e (F G : Fe Bool) : fAnd F G δ = (F δ).bind (and1 G) := rfl
theorem fOr_e (F G : Fe Bool) : fOr F G δ = (F δ).bind (or1 G) := rfl
theorem fNot_e (F : Fe Bool) : fNot F δ = (F δ).bind not1 := rfl
theorem and1_t (G : Fe Bool) : and1 G true δ = G δ := rfl
theorem and1_f (G : Fe Bool) : and1 G false δ = .ok false δ := rfl
theorem or1_t (G : Fe Bool) : or1 G true δ = .ok true δ := rfl
theorem or1_f (G : Fe Bool) : or1 G false δ = G δ := rfl
theorem not1_e (b : Bool) : not1 b δ = .ok (!b) δ := rfl
def andV1 (G : Fe D) (b : Bool) (δ : DEnv) : R D := if b = true then G δ else .ok (.bool false) δ
def orV1 (G : Fe D) (b : Bool) (δ : DEnv) : R D := if b = true then .ok (.bool true) δ else G δ
def notV1 (b : Bool) (δ : DEnv) : R D := .ok (.bool (!b)) δ
theorem fAndV_e (F G : Fe D) : fAndV F G δ = ((F δ).bind toB).bind (andV1 G) := by rw [R.bind_assoc]; rfl
theorem fOrV_e (F G : Fe D) : fOrV F G δ = ((F δ).bind toB).bind (orV1 G) := by rw [R.bind_assoc]; rfl
theorem fNotV_e (F : Fe D) : fNotV F δ = ((F δ).bind toB).bind notV1 := by rw [R.bind_assoc]; rfl
theorem andV1_t (G : Fe D) : andV1 G true δ = G δ := rfl
theorem andV1_f (G : Fe D) : andV1 G false δ = .ok (.bool false) δ := rfl
theorem orV1_t (G : Fe D) : orV1 G true δ = .ok (.bool true) δ := rfl
theorem orV1_f (G : Fe D) : orV1 G false δ = G δ := rfl
theorem notV1_e (b : Bool) : notV1 b δ = .ok (.bool (!b)) δ := rfl
def if1 (F G : Fe D) (b : Bool) (δ : DEnv) : R D := if b = true then F δ else G δ
theorem fIf_e (T : Fe Bool) (F G : Fe D) : fIf T F G δ = (T δ).bind (if1 F G) := rfl
theorem if1_t (F G : Fe D) : if1 F G true δ = F δ := rfl
theorem if1_f (F G : Fe D) : if1 F G false δ = G δ := rfl

/-! ### calls -/
def v1 (m : Mir) (ds : List D) (δ : DEnv) : R D := (cellRes (m (ds.map .val)) δ).bind toVal
def vO1 (m : Mir) (ds : List D) (δ : DEnv) : R D := (cellRes (m (ds.map .val)) δ).bind toOwn
theorem fV_e (m : Mir) (F : Fe (List D)) : fV m F δ = (F δ).bind (v1 m) := by
  unfold fV callV
  rw [R.bind_assoc]
  rfl
theorem fVO_e (m : Mir) (F : Fe (List D)) : fVO m F δ = (F δ).bind (vO1 m) := by
  unfold fVO callV
  rw [R.bind_assoc]
  rfl
theorem v1_e (m : Mir) (ds : List D) : v1 m ds δ = (cellRes (m (ds.map .val)) δ).bind toVal := rfl
theorem vO1_e (m : Mir) (ds : List D) : vO1 m ds δ = (cellRes (m (ds.map .val)) δ).bind toOwn := rfl
theorem cellRes_ok {c : Cell} {o : DEnv} : cellRes (.ok c o) δ = .ok c δ := rfl
theorem toVal_v : toVal (.val d) δ = .ok d δ := rfl
theorem toVal_o : toVal (.own d) δ = .ok d δ := rfl
theorem toOwn_o : toOwn (.own d) δ = .ok d δ := rfl
theorem mapV0 : ([] : List D).map Cell.val = [] := rfl
theorem mapV1 {ds : List D} : (d :: ds).map Cell.val = .val d :: ds.map Cell.val := rfl
def apH2 (ds : List D) (δ : DEnv) : R (List D) := .ok (.none :: ds) δ
def apH1 (G : Fe (List D)) (δ : DEnv) : Option D → R (List D)
  | some _ => (G δ).bind apH2
  | none => .bad
theorem apHead_e (i : Nat) (G : Fe (List D)) : apHead i G δ = apH1 G δ (lendC (slot δ i)) := by
  rw [← lend_e]
  unfold apHead apH1
  cases lendable δ i <;> rfl
theorem apH1_e (G : Fe (List D)) : apH1 G δ (some d) = (G δ).bind apH2 := rfl
theorem apH2_e (ds : List D) : apH2 ds δ = .ok (.none :: ds) δ := rfl
def r2 (m : Mir) (p i : Nat) (g : Cell → DEnv → R D) (ds : List D) (δ : DEnv) : Option D → R D
  | some d => if p < ds.length then (cellResR i p (m ((ds.map Cell.val).set p (.ref d))) δ).bind g else .bad
  | none => .bad
def r1 (m : Mir) (p i : Nat) (g : Cell → DEnv → R D) (ds : List D) (δ : DEnv) : R D := r2 m p i g ds δ (lendC (slot δ i))
theorem fR_e (m : Mir) (p i : Nat) (g : Cell → DEnv → R D) (F : Fe (List D)) : fR m p i g F δ = (F δ).bind (r1 m p i g) := by
  unfold fR
  congr 1
  funext ds δ1
  unfold r1
  rw [← lend_e]
  unfold r2
  cases lendable δ1 i <;> rfl
theorem r1_e (m : Mir) (p i : Nat) (g : Cell → DEnv → R D) (ds : List D) : r1 m p i g ds δ = r2 m p i g ds δ (lendC (slot δ i)) := rfl
theorem r2_0 (m : Mir) (i : Nat) (g : Cell → DEnv → R D) (d0 : D) (ds : List D) : r2 m 0 i g (d0 :: ds) δ (some d) = (cellResR i 0 (m (.ref d :: ds.map .val)) δ).bind g := rfl
theorem r2_1 (m : Mir) (i : Nat) (g : Cell → DEnv → R D) (d0 d1 : D) (ds : List D) : r2 m 1 i g (d0 :: d1 :: ds) δ (some d) = (cellResR i 1 (m (.val d0 :: .ref d :: ds.map .val)) δ).bind g := rfl
/-- what was lent comes back -/
def back1 : DEnv → Nat → D → DEnv
  | [], _, _ => []
  | x :: l, 0, d => backC x d :: l
  | x :: l, n + 1, d => x :: back1 l n d
where backC : Option Cell → D → Option Cell
  | some c, d => some (upCell c d)
  | none, _ => none
theorem back1_0 {x : Option Cell} {l : DEnv} : back1 (x :: l) 0 d = back1.backC x d :: l := rfl
theorem back1_S {x : Option Cell} {l : DEnv} {n : Nat} : back1 (x :: l) (n + 1) d = x :: back1 l n d := rfl
theorem backC_own : back1.backC (some (.own d1)) d = some (.own d) := rfl
theorem backC_ref : back1.backC (some (.ref d1)) d = some (.ref d) := rfl
theorem back1_e : ∀ (δ : DEnv) (i : Nat), back1 δ i d = (match δ[i]? with | some (some c) => δ.set i (some (upCell c d)) | _ => δ)
  | [], i => by simp [back1]
  | x :: l, 0 => by cases x <;> simp [back1, back1.backC]
  | x :: l, i + 1 => by
    simp only [back1, back1_e l i, List.getElem?_cons_succ, List.set_cons_succ]
    cases l[i]? with
    | none => rfl
    | some y => cases y <;> rfl
def cR (i : Nat) (c : Cell) (δ : DEnv) : Option Cell → R Cell
  | some (.ref d) => .ok c (back1 δ i d)
  | _ => .ok c δ
theorem cellResR_e {i p : Nat} {c : Cell} {o : DEnv} : cellResR i p (.ok c o) δ = cR i c δ (slot o p) := by
  show R.ok c (unlend i p o δ) = _
  rw [slot_eq]
  unfold unlend
  cases h : o[p]? with
  | none => rfl
  | some x => cases x with
    | none => rfl
    | some k => cases k with
      | ref d =>
        show _ = R.ok c (back1 δ i d)
        rw [back1_e]
        cases h2 : δ[i]? with
        | none => rfl
        | some y => cases y <;> rfl
      | _ => rfl
theorem cR_ref {i : Nat} {c : Cell} : cR i c δ (some (.ref d)) = .ok c (back1 δ i d) := rfl
theorem cR_none {i : Nat} {c : Cell} : cR i c δ none = .ok c δ := rfl

/-! ### statements -/
def seq1 (G : Fs) : RS → RS
  | .next δ => G δ
  | r => r
theorem sSeq_e (F G : Fs) : sSeq F G δ = seq1 G (F δ) := by
  unfold sSeq seq1
  cases F δ <;> rfl
theorem seq1_n (G : Fs) : seq1 G (.next δ) = G δ := rfl
theorem seq1_r (G : Fs) {c : Cell} : seq1 G (.ret c δ) = .ret c δ := rfl
theorem seq1_b (G : Fs) : seq1 G (.brk δ) = .brk δ := rfl
theorem seq1_c (G : Fs) : seq1 G (.cont δ) = .cont δ := rfl
theorem sNext_e : sNext δ = .next δ := rfl
def drop1 (_ : D) (δ : DEnv) : RS := .next δ
theorem sDrop_e (F : Fe D) : sDrop F δ = (F δ).bindS drop1 := rfl
theorem drop1_e : drop1 d δ = .next δ := rfl
def ret1 (d : D) (δ : DEnv) : RS := .ret (.val d) δ
def retO1 (d : D) (δ : DEnv) : RS := .ret (.own d) δ
theorem sRet_e (F : Fe D) : sRet F δ = (F δ).bindS ret1 := rfl
theorem sRetO_e (F : Fe D) : sRetO F δ = (F δ).bindS retO1 := rfl
theorem ret1_e : ret1 d δ = .ret (.val d) δ := rfl
theorem retO1_e : retO1 d δ = .ret (.own d) δ := rfl
theorem sRetN_e : sRetN δ = .ret (.val .none) δ := rfl
def retC (i : Nat) (δ : DEnv) : Option Cell → RS
  | some (.val d) => .ret (.val d) δ
  | some (.own d) => .ret (.own d) (δ.set i none)
  | _ => .bad
theorem sRetV_e (i : Nat) : sRetV i δ = retC i δ (slot δ i) := by
  rw [slot_eq]
  unfold sRetV
  cases h : δ[i]? with
  | none => rfl
  | some x => cases x with
    | none => rfl
    | some c => cases c <;> rfl
theorem retC_v {i : Nat} : retC i δ (some (.val d)) = .ret (.val d) δ := rfl
theorem retC_o {i : Nat} : retC i δ (some (.own d)) = .ret (.own d) (δ.set i none) := rfl
def nextO : Option DEnv → RS
  | some δ => .next δ
  | none => .bad
theorem nextO_e : nextO (some δ) = .next δ := rfl
def set1 (i : Nat) (d : D) (δ : DEnv) : RS := nextO (stor δ i (.val d))
def setO1 (i : Nat) (d : D) (δ : DEnv) : RS := nextO (stor δ i (.own d))
theorem sSet_e (i : Nat) (F : Fe D) : sSet i F δ = (F δ).bindS (set1 i) := by
  unfold sSet
  congr 1
  funext d δ1
  unfold set1
  rw [stor_e]
  split <;> rfl
theorem sSetO_e (i : Nat) (F : Fe D) : sSetO i F δ = (F δ).bindS (setO1 i) := by
  unfold sSetO
  congr 1
  funext d δ1
  unfold setO1
  rw [stor_e]
  split <;> rfl
theorem set1_e (i : Nat) : set1 i d δ = nextO (stor δ i (.val d)) := rfl
theorem setO1_e (i : Nat) : setO1 i d δ = nextO (stor δ i (.own d)) := rfl
theorem bName_e (i : Nat) : bName i d δ = stor δ i (.val d) := by
  rw [stor_e]
  rfl
theorem bNil_e : bNil [] δ = some δ := rfl
def bCons1 (C : Bds) (ds : List D) : Option DEnv → Option DEnv
  | some δ => C ds δ
  | none => none
theorem bCons_e (B : Bd) (C : Bds) (ds : List D) : bCons B C (d :: ds) δ = bCons1 C ds (B d δ) := by
  show (B d δ).bind (C ds) = _
  unfold bCons1
  cases B d δ <;> rfl
theorem bCons1_e (C : Bds) (ds : List D) : bCons1 C ds (some δ) = C ds δ := rfl
theorem bTup_e {n : Nat} {B : Bds} {ds : List D} (h : ds.length = n) : bTup n B (.tuple ds) δ = B ds δ := if_pos h
def asg1 (B : Bd) (d : D) (δ : DEnv) : RS := nextO (B d δ)
theorem sAsg_e (F : Fe D) (B : Bd) : sAsg F B δ = (F δ).bindS (asg1 B) := by
  show (F δ).bindS (fun d δ1 => match B d δ1 with
    | some δ2 => RS.next δ2
    | none => .bad) = _
  congr 1
theorem asg1_e (B : Bd) : asg1 B d δ = nextO (B d δ) := rfl
/-- two stores -/
def stor2 (i j : Nat) (a b : D) (δ : DEnv) : Option DEnv := storN j b (stor δ i (.val a))
where storN (j : Nat) (b : D) : Option DEnv → Option DEnv
  | some δ => stor δ j (.val b)
  | none => none
theorem storN_e {j : Nat} : stor2.storN j d (some δ) = stor δ j (.val d) := rfl
def par1 (i j : Nat) : List D → DEnv → RS
  | [a, b], δ => nextO (stor2.storN j b (stor δ i (.val a)))
  | _, _ => .bad
theorem par1_e {i j : Nat} {a b : D} : par1 i j [a, b] δ = nextO (stor2.storN j b (stor δ i (.val a))) := rfl
def augN1 (i : Nat) (f : Int → Int → Int) (x : Int) (d : D) (δ : DEnv) : RS :=
  match d with
  | .int y => nextO (stor δ i (.val (.int (f x y))))
  | _ => .bad
def augN0 (i : Nat) (f : Int → Int → Int) (F : Fe D) (δ : DEnv) : Option D → RS
  | some (.int x) => (F δ).bindS (augN1 i f x)
  | _ => .bad
theorem sAugN_e (i : Nat) (f : Int → Int → Int) (F : Fe D) : sAugN i f F δ = augN0 i f F δ (cellD (slot δ i)) := by
  rw [← peek_e]
  unfold sAugN augN0
  cases peek δ i with
  | none => rfl
  | some x => cases x with
    | int x =>
      dsimp only
      congr 1
      funext d δ1
      unfold augN1
      cases d with
      | int y =>
        dsimp only
        rw [stor_e]
        split <;> rfl
      | _ => rfl
    | _ => rfl
theorem augN0_e (i : Nat) (f : Int → Int → Int) (F : Fe D) {x : Int} : augN0 i f F δ (some (.int x)) = (F δ).bindS (augN1 i f x) := rfl
theorem augN1_e (i : Nat) (f : Int → Int → Int) {x y : Int} : augN1 i f x (.int y) δ = nextO (stor δ i (.val (.int (f x y)))) := rfl
def sif1 (F G : Fs) (b : Bool) (δ : DEnv) : RS := if b = true then F δ else G δ
theorem sIf_e (T : Fe Bool) (F G : Fs) : sIf T F G δ = (T δ).bindS (sif1 F G) := rfl
theorem sif1_t (F G : Fs) : sif1 F G true δ = F δ := rfl
theorem sif1_f (F G : Fs) : sif1 F G false δ = G δ := rfl
def sfor1 (B : Bd) (F : Fs) (ds : List D) (δ : DEnv) : RS := sForL B F ds δ
theorem sFor_e (I : Fe (List D)) (B : Bd) (F : Fs) : sFor I B F δ = (I δ).bindS (sfor1 B F) := rfl
theorem sfor1_e (B : Bd) (F : Fs) (ds : List D) : sfor1 B F ds δ = sForL B F ds δ := rfl
theorem iAny_e (F : Fe D) : iAny F δ = (F δ).bind anyI := rfl
theorem anyI_l {ds : List D} : anyI (.list ds) δ = .ok ds δ := rfl
theorem anyI_t {ds : List D} : anyI (.tuple ds) δ = .ok ds δ := rfl
theorem anyI_s {z : Str} : anyI (.str z) δ = .ok (signsD z) δ := rfl
theorem iRng1_e (F : Fe D) : iRng1 F δ = (F δ).bind rng1 := rfl
theorem rng1_e {j : Int} (h1 : -(2 ^ 62) ≤ j) (h2 : j < 2 ^ 62) : rng1 (.int j) δ = .ok (rngL 0 j.toNat) δ := if_pos ⟨h1, h2⟩
/-! items and append, in place -/
theorem put_e {v : Nat} : putD v d δ = back1 δ v d := by
  rw [back1_e]
  rfl
def atN {α : Type} : List α → Nat → Option α
  | [], _ => none
  | x :: _, 0 => some x
  | _ :: l, n + 1 => atN l n
theorem atN_get {α : Type} : ∀ (l : List α) (n : Nat), atN l n = l[n]?
  | [], n => by simp [atN]
  | x :: l, 0 => by simp [atN]
  | x :: l, n + 1 => by simp [atN, atN_get l n]
theorem atN_0 {α : Type} {x : α} {l : List α} : atN (x :: l) 0 = some x := rfl
theorem atN_S {α : Type} {x : α} {l : List α} {n : Nat} : atN (x :: l) (n + 1) = atN l n := rfl
theorem ixN_nat {n k : Nat} : ixN n (k : Int) = if k < n then some k else none := by
  unfold ixN
  rw [if_pos (Int.natCast_nonneg k)]
  by_cases h : k < n
  · rw [if_pos (by omega), if_pos h]
    simp
  · rw [if_neg (by omega), if_neg h]
theorem atI_nat' {α : Type} (xs : List α) (k : Nat) : atI xs (k : Int) = atN xs k := by
  rw [atN_get]
  unfold atI
  rw [ixN_nat]
  by_cases h : k < xs.length
  · rw [if_pos h]
    rfl
  · rw [if_neg h, List.getElem?_eq_none (by omega)]
    rfl
theorem atI_0 {α : Type} (xs : List α) : atI xs 0 = atN xs 0 := atI_nat' xs 0
theorem atI_1 {α : Type} (xs : List α) : atI xs 1 = atN xs 1 := atI_nat' xs 1
theorem atI_2 {α : Type} (xs : List α) : atI xs 2 = atN xs 2 := atI_nat' xs 2
theorem atI_3 {α : Type} (xs : List α) : atI xs 3 = atN xs 3 := atI_nat' xs 3
theorem atI_4 {α : Type} (xs : List α) : atI xs 4 = atN xs 4 := atI_nat' xs 4
theorem atI_5 {α : Type} (xs : List α) : atI xs 5 = atN xs 5 := atI_nat' xs 5
theorem atI_6 {α : Type} (xs : List α) : atI xs 6 = atN xs 6 := atI_nat' xs 6
theorem atI_7 {α : Type} (xs : List α) : atI xs 7 = atN xs 7 := atI_nat' xs 7
theorem atI_8 {α : Type} (xs : List α) : atI xs 8 = atN xs 8 := atI_nat' xs 8
theorem atI_9 {α : Type} (xs : List α) : atI xs 9 = atN xs 9 := atI_nat' xs 9
theorem atI_10 {α : Type} (xs : List α) : atI xs 10 = atN xs 10 := atI_nat' xs 10
theorem atI_11 {α : Type} (xs : List α) : atI xs 11 = atN xs 11 := atI_nat' xs 11
theorem atI_12 {α : Type} (xs : List α) : atI xs 12 = atN xs 12 := atI_nat' xs 12
theorem atI_in {α : Type} (xs : List α) {i : Int} (h0 : 0 ≤ i) (h1 : i < xs.length) (d : α) : atI xs i = some (xs.getD i.toNat d) := by
  have e : i = (i.toNat : Nat) := by omega
  rw [e, atI_nat', atN_get, List.getElem?_eq_getElem (by omega), List.getD_eq_getElem?_getD, Int.toNat_natCast, List.getElem?_eq_getElem (by omega)]
  rfl
def lset {α : Type} : List α → Nat → α → Option (List α)
  | [], _, _ => none
  | _ :: l, 0, d => some (d :: l)
  | x :: l, n + 1, d => (lset l n d).map (x :: ·)
theorem lset_0 {α : Type} {x d : α} {l : List α} : lset (x :: l) 0 d = some (d :: l) := rfl
theorem lset_S {α : Type} {x d : α} {l : List α} {n : Nat} : lset (x :: l) (n + 1) d = (lset l n d).map (x :: ·) := rfl
theorem mapc {α : Type} {x : α} {l : List α} : (some l).map (x :: ·) = some (x :: l) := rfl
theorem lset_e {α : Type} : ∀ (l : List α) (n : Nat) (d : α), lset l n d = if n < l.length then some (l.set n d) else none
  | [], n, d => by simp [lset]
  | x :: l, 0, d => by simp [lset]
  | x :: l, n + 1, d => by
    simp only [lset, lset_e l n d, List.length_cons, Nat.add_lt_add_iff_right, List.set_cons_succ]
    split <;> rfl
def putN (v : Nat) (δ : DEnv) : Option (List D) → RS
  | some ds => .next (back1 δ v (.list ds))
  | none => .bad
theorem putN_e {v : Nat} {ds : List D} : putN v δ (some ds) = .next (back1 δ v (.list ds)) := rfl
def item4 (v : Nat) (d : D) (k : D) (δ : DEnv) (o : Option D) : RS :=
  match o with
  | some (.list ds) => (match k with
    | .int j => (match ixN ds.length j with
      | some jn => .next (putD v (.list (ds.set jn d)) δ)
      | none => .bad)
    | _ => .bad)
  | _ => .bad
def item3 (v : Nat) (d k : D) (δ : DEnv) : RS := item4 v d k δ (lendC (slot δ v))
def item2 (v : Nat) (d : D) (Fi : Fe D) (δ : DEnv) : Option D → RS
  | some _ => (Fi δ).bindS (item3 v d)
  | none => .bad
def item1 (v : Nat) (Fi : Fe D) (d : D) (δ : DEnv) : RS := item2 v d Fi δ (lendC (slot δ v))
theorem sItem_e (v : Nat) (Fi F : Fe D) : sItem v Fi F δ = (F δ).bindS (item1 v Fi) := by
  unfold sItem
  congr 1
  funext d δ1
  unfold item1
  rw [← lend_e]
  unfold item2
  cases lendable δ1 v with
  | none => rfl
  | some c =>
    refine (if_pos rfl).trans ?_
    dsimp only
    congr 1
    funext k δ2
    unfold item3 item4 onList
    rw [lend_e]
    all_goals
      cases lendC (slot δ2 v) with
      | none => rfl
      | some q => cases q <;> rfl
theorem item1_e (v : Nat) (Fi : Fe D) : item1 v Fi d δ = item2 v d Fi δ (lendC (slot δ v)) := rfl
theorem item2_e (v : Nat) (Fi : Fe D) : item2 v d Fi δ (some d1) = (Fi δ).bindS (item3 v d) := rfl
theorem item3_e (v : Nat) {k : D} : item3 v d k δ = item4 v d k δ (lendC (slot δ v)) := rfl
theorem item4_e (v : Nat) {ds : List D} {n : Nat} : item4 v d (.int (n : Int)) δ (some (.list ds)) = putN v δ (lset ds n d) := by
  show (match ixN ds.length ((n : Nat) : Int) with
      | some jn => RS.next (putD v (.list (ds.set jn d)) δ)
      | none => .bad) = _
  rw [ixN_nat, lset_e]
  by_cases h : n < ds.length
  · rw [if_pos h, if_pos h]
    show RS.next (putD v _ δ) = _
    rw [put_e]
    rfl
  · rw [if_neg h, if_neg h]
    rfl
theorem item4_0 (v : Nat) {ds : List D} : item4 v d (.int 0) δ (some (.list ds)) = putN v δ (lset ds 0 d) := item4_e v (n := 0)
theorem item4_1 (v : Nat) {ds : List D} : item4 v d (.int 1) δ (some (.list ds)) = putN v δ (lset ds 1 d) := item4_e v (n := 1)
theorem item4_2 (v : Nat) {ds : List D} : item4 v d (.int 2) δ (some (.list ds)) = putN v δ (lset ds 2 d) := item4_e v (n := 2)
theorem item4_3 (v : Nat) {ds : List D} : item4 v d (.int 3) δ (some (.list ds)) = putN v δ (lset ds 3 d) := item4_e v (n := 3)
theorem item4_4 (v : Nat) {ds : List D} : item4 v d (.int 4) δ (some (.list ds)) = putN v δ (lset ds 4 d) := item4_e v (n := 4)
theorem item4_5 (v : Nat) {ds : List D} : item4 v d (.int 5) δ (some (.list ds)) = putN v δ (lset ds 5 d) := item4_e v (n := 5)
theorem item4_6 (v : Nat) {ds : List D} : item4 v d (.int 6) δ (some (.list ds)) = putN v δ (lset ds 6 d) := item4_e v (n := 6)
theorem item4_7 (v : Nat) {ds : List D} : item4 v d (.int 7) δ (some (.list ds)) = putN v δ (lset ds 7 d) := item4_e v (n := 7)
theorem item4_8 (v : Nat) {ds : List D} : item4 v d (.int 8) δ (some (.list ds)) = putN v δ (lset ds 8 d) := item4_e v (n := 8)
theorem item4_9 (v : Nat) {ds : List D} : item4 v d (.int 9) δ (some (.list ds)) = putN v δ (lset ds 9 d) := item4_e v (n := 9)
def augI3 (v : Nat) (f : Int → Int → Int) (j : Int) (n : Nat) (old : Int) (d : D) (δ : DEnv) : Option D → RS
  | some (.list ds2) => (match d with
    | .int y => if ds2.length = n then .next (putD v (.list (ds2.set j.toNat (.int (f old y)))) δ) else .bad
    | _ => .bad)
  | _ => .bad
def augI2 (v : Nat) (f : Int → Int → Int) (j : Int) (n : Nat) (old : Int) (d : D) (δ : DEnv) : RS := augI3 v f j n old d δ (lendC (slot δ v))
def augI1 (v : Nat) (f : Int → Int → Int) (F : Fe D) (δ : DEnv) (j : Int) (n : Nat) : Option D → RS
  | some (.int old) => (F δ).bindS (augI2 v f j n old)
  | _ => .bad
def augI0 (v : Nat) (f : Int → Int → Int) (F : Fe D) (k : D) (δ : DEnv) : Option D → RS
  | some (.list ds) => (match k with
    | .int j => if 0 ≤ j then augI1 v f F δ j ds.length ds[j.toNat]? else .bad
    | _ => .bad)
  | _ => .bad
def augIk (v : Nat) (f : Int → Int → Int) (F : Fe D) (k : D) (δ : DEnv) : RS := augI0 v f F k δ (lendC (slot δ v))
def augIs (v : Nat) (f : Int → Int → Int) (Fi F : Fe D) (δ : DEnv) : Option D → RS
  | some _ => (Fi δ).bindS (augIk v f F)
  | none => .bad
theorem sAugI_e (v : Nat) (f : Int → Int → Int) (Fi F : Fe D) : sAugI v f Fi F δ = augIs v f Fi F δ (lendC (slot δ v)) := by
  rw [← lend_e]
  unfold sAugI augIs
  cases lendable δ v with
  | none => rfl
  | some c =>
    refine (if_pos rfl).trans ?_
    dsimp only
    congr 1
    funext k δ1
    unfold augIk
    rw [← lend_e]
    unfold onList augI0
    cases lendable δ1 v with
    | none => rfl
    | some e => cases e with
      | list ds =>
        dsimp only
        cases k with
        | int j =>
          dsimp only
          split
          · unfold augI1
            cases ds[j.toNat]? with
            | none => rfl
            | some o => cases o with
              | int old =>
                dsimp only
                congr 1
                funext d δ2
                unfold augI2
                rw [← lend_e]
                unfold augI3
                cases lendable δ2 v with
                | none => rfl
                | some q => cases q <;> rfl
              | _ => rfl
          · rfl
        | _ => rfl
      | _ => rfl
theorem augIs_e (v : Nat) (f : Int → Int → Int) (Fi F : Fe D) : augIs v f Fi F δ (some d) = (Fi δ).bindS (augIk v f F) := rfl
theorem augIk_e (v : Nat) (f : Int → Int → Int) (F : Fe D) {k : D} : augIk v f F k δ = augI0 v f F k δ (lendC (slot δ v)) := rfl
theorem augI0_e (v : Nat) (f : Int → Int → Int) (F : Fe D) {ds : List D} {n : Nat} : augI0 v f F (.int (n : Int)) δ (some (.list ds)) = augI1 v f F δ n ds.length (atN ds n) := by
  rw [atN_get]
  show (if 0 ≤ ((n : Nat) : Int) then augI1 v f F δ n ds.length ds[((n : Nat) : Int).toNat]? else .bad) = _
  rw [if_pos (Int.natCast_nonneg n)]
  rfl
theorem augI0_0 (v : Nat) (f : Int → Int → Int) (F : Fe D) {ds : List D} : augI0 v f F (.int 0) δ (some (.list ds)) = augI1 v f F δ ((0 : Nat) : Int) ds.length (atN ds 0) := augI0_e v f F (n := 0)
theorem augI0_1 (v : Nat) (f : Int → Int → Int) (F : Fe D) {ds : List D} : augI0 v f F (.int 1) δ (some (.list ds)) = augI1 v f F δ ((1 : Nat) : Int) ds.length (atN ds 1) := augI0_e v f F (n := 1)
theorem augI0_2 (v : Nat) (f : Int → Int → Int) (F : Fe D) {ds : List D} : augI0 v f F (.int 2) δ (some (.list ds)) = augI1 v f F δ ((2 : Nat) : Int) ds.length (atN ds 2) := augI0_e v f F (n := 2)
theorem augI0_3 (v : Nat) (f : Int → Int → Int) (F : Fe D) {ds : List D} : augI0 v f F (.int 3) δ (some (.list ds)) = augI1 v f F δ ((3 : Nat) : Int) ds.length (atN ds 3) := augI0_e v f F (n := 3)
theorem augI0_4 (v : Nat) (f : Int → Int → Int) (F : Fe D) {ds : List D} : augI0 v f F (.int 4) δ (some (.list ds)) = augI1 v f F δ ((4 : Nat) : Int) ds.length (atN ds 4) := augI0_e v f F (n := 4)
theorem augI0_5 (v : Nat) (f : Int → Int → Int) (F : Fe D) {ds : List D} : augI0 v f F (.int 5) δ (some (.list ds)) = augI1 v f F δ ((5 : Nat) : Int) ds.length (atN ds 5) := augI0_e v f F (n := 5)
theorem augI1_e (v : Nat) (f : Int → Int → Int) (F : Fe D) {j : Int} {n : Nat} {old : Int} : augI1 v f F δ j n (some (.int old)) = (F δ).bindS (augI2 v f j n old) := rfl
theorem augI2_e (v : Nat) (f : Int → Int → Int) {j : Int} {n : Nat} {old : Int} : augI2 v f j n old d δ = augI3 v f j n old d δ (lendC (slot δ v)) := rfl
theorem augI3_e (v : Nat) (f : Int → Int → Int) {j n : Nat} {old y : Int} {ds : List D} (h : ds.length = n) : augI3 v f (j : Int) n old (.int y) δ (some (.list ds)) = .next (back1 δ v (.list (ds.set j (.int (f old y))))) := by
  show (if ds.length = n then RS.next (putD v (.list (ds.set ((j : Nat) : Int).toNat (.int (f old y)))) δ) else .bad) = _
  rw [if_pos h, put_e]
  rfl
def app2 (v : Nat) (d : D) (δ : DEnv) : Option D → RS
  | some (.list ds) => if ds.length < 1000000 then .next (putD v (.list (ds ++ [d])) δ) else .bad
  | _ => .bad
def app1 (v : Nat) (d : D) (δ : DEnv) : RS := app2 v d δ (lendC (slot δ v))
def app0 (v : Nat) (F : Fe D) (δ : DEnv) : Option D → RS
  | some (.list _) => (F δ).bindS (app1 v)
  | _ => .bad
theorem sApp_e (v : Nat) (F : Fe D) : sApp v F δ = app0 v F δ (lendC (slot δ v)) := by
  rw [← lend_e]
  unfold sApp app0 isLst
  cases lendable δ v with
  | none => rfl
  | some c => cases c with
    | list ds =>
      refine (if_pos rfl).trans ?_
      dsimp only
      congr 1
      funext d δ1
      unfold app1
      rw [← lend_e]
      unfold app2 onList
      cases lendable δ1 v with
      | none => rfl
      | some q => cases q <;> rfl
    | _ => rfl
theorem app0_e (v : Nat) (F : Fe D) {ds : List D} : app0 v F δ (some (.list ds)) = (F δ).bindS (app1 v) := rfl
theorem app1_e (v : Nat) : app1 v d δ = app2 v d δ (lendC (slot δ v)) := rfl
theorem app2_e (v : Nat) {ds : List D} (h : ds.length < 1000000) : app2 v d δ (some (.list ds)) = .next (back1 δ v (.list (ds ++ [d]))) := by
  show (if ds.length < 1000000 then RS.next (putD v (.list (ds ++ [d])) δ) else .bad) = _
  rw [if_pos h, put_e]

/-! ### defs -/
theorem mir_e {np n : Nat} {F : Fs} {cells : List Cell} (h : cells.length = np) : mir np n F cells = runBody n F cells := if_pos h
def fin (cells : List Cell) : RS → RF
  | .ret c δ => .ok c (outs cells δ)
  | .next δ => .ok (.val .none) (outs cells δ)
  | .err x δ => .err x (outs cells δ)
  | _ => .bad
theorem runBody_e {n : Nat} {F : Fs} {cells : List Cell} : runBody n F cells = fin cells (F (cells.map some ++ List.replicate (n - cells.length) none)) := by
  unfold runBody fin
  cases F (cells.map some ++ List.replicate (n - cells.length) none) <;> rfl
theorem fin_r {cells : List Cell} {c : Cell} : fin cells (.ret c δ) = .ok c (outs cells δ) := rfl
theorem fin_n {cells : List Cell} : fin cells (.next δ) = .ok (.val .none) (outs cells δ) := rfl
theorem outs_n : outs [] δ = [] := by cases δ <;> rfl
theorem outs_v {cs : List Cell} {x : Option Cell} : outs (.val d :: cs) (x :: δ) = none :: outs cs δ := rfl
theorem outs_r {cs : List Cell} {x : Option Cell} : outs (.ref d :: cs) (x :: δ) = x :: outs cs δ := rfl

/-! ### loops -/
/-- every turn goes on -/
theorem forL_inv {B : Bd} {F : Fs} (P : DEnv → Prop) : ∀ (ds : List D) (δ : DEnv), P δ →
    (∀ d ∈ ds, ∀ δ, P δ → ∃ δ1, B d δ = some δ1 ∧ ∃ δ2, (F δ1 = .next δ2 ∨ F δ1 = .cont δ2) ∧ P δ2) → ∃ δ', sForL B F ds δ = .next δ' ∧ P δ'
  | [], δ, h, _ => ⟨δ, rfl, h⟩
  | d :: ds, δ, h, st => by
    obtain ⟨δ1, e1, δ2, e2, h2⟩ := st d List.mem_cons_self δ h
    obtain ⟨δ', e, h'⟩ := forL_inv P ds δ2 h2 fun x m => st x (List.mem_cons_of_mem _ m)
    refine ⟨δ', ?_, h'⟩
    unfold sForL
    rw [e1]
    dsimp only
    rcases e2 with e2 | e2 <;> rw [e2] <;> exact e
/-- .. with what is counted -/
theorem forL_at {B : Bd} {F : Fs} (P : Nat → DEnv → Prop) (ds : List D) (δ : DEnv) (h : P 0 δ)
    (st : ∀ i d, ds[i]? = some d → ∀ δ, P i δ → ∃ δ1, B d δ = some δ1 ∧ ∃ δ2, (F δ1 = .next δ2 ∨ F δ1 = .cont δ2) ∧ P (i + 1) δ2) : ∃ δ', sForL B F ds δ = .next δ' ∧ P ds.length δ' := by
  have go : ∀ (r : List D) (i : Nat) (δ : DEnv), P i δ → (∀ k d, r[k]? = some d → ∀ δ, P (i + k) δ → ∃ δ1, B d δ = some δ1 ∧ ∃ δ2, (F δ1 = .next δ2 ∨ F δ1 = .cont δ2) ∧ P (i + k + 1) δ2) → ∃ δ', sForL B F r δ = .next δ' ∧ P (i + r.length) δ' := by
    intro r
    induction r with
    | nil => exact fun i δ h _ => ⟨δ, rfl, h⟩
    | cons d r ih =>
      intro i δ h st
      obtain ⟨δ1, e1, δ2, e2, h2⟩ := st 0 d rfl δ h
      obtain ⟨δ', e, h'⟩ := ih (i + 1) δ2 h2 fun k x m δ hp => by
        have q := st (k + 1) x (by simpa using m) δ (by rw [show i + (k + 1) = i + 1 + k by omega]; exact hp)
        rwa [show i + (k + 1) + 1 = i + 1 + k + 1 by omega] at q
      refine ⟨δ', ?_, by rw [List.length_cons, show i + (r.length + 1) = i + 1 + r.length by omega]; exact h'⟩
      unfold sForL
      rw [e1]
      dsimp only
      rcases e2 with e2 | e2 <;> rw [e2] <;> exact e
  obtain ⟨δ', e, h'⟩ := go ds 0 δ h fun k d m δ hp => by
    have q := st k d m δ (by simpa using hp)
    simpa using q
  exact ⟨δ', e, by simpa using h'⟩
def for2 (B : Bd) (F : Fs) (ds : List D) : RS → RS
  | .next δ2 => sForL B F ds δ2
  | .cont δ2 => sForL B F ds δ2
  | .brk δ2 => .next δ2
  | r => r
def for1 (B : Bd) (F : Fs) (ds : List D) : Option DEnv → RS
  | some δ1 => for2 B F ds (F δ1)
  | none => .bad
theorem forL_cons {B : Bd} {F : Fs} {ds : List D} : sForL B F (d :: ds) δ = for1 B F ds (B d δ) := by
  unfold for1
  show (match B d δ with
    | none => RS.bad
    | some δ1 => match F δ1 with
      | .next δ2 => sForL B F ds δ2
      | .cont δ2 => sForL B F ds δ2
      | .brk δ2 => .next δ2
      | r => r) = _
  cases B d δ with
  | none => rfl
  | some δ1 =>
    dsimp only
    unfold for2
    cases F δ1 <;> rfl
theorem for1_e {B : Bd} {F : Fs} {ds : List D} : for1 B F ds (some δ) = for2 B F ds (F δ) := rfl
theorem for2_n {B : Bd} {F : Fs} {ds : List D} : for2 B F ds (.next δ) = sForL B F ds δ := rfl
theorem for2_c {B : Bd} {F : Fs} {ds : List D} : for2 B F ds (.cont δ) = sForL B F ds δ := rfl
/-! ### comprehensions -/
/-- one own slot; what is made of each item, the frame as P says -/
theorem comp_inv {i : Nat} {I : Fe (List D)} {E : Fe D} {δ1 : DEnv} {ds : List D} (P : DEnv → Prop) (G : D → Prop) (hI : I δ = .ok ds δ1) (hs : soft (slot δ1 i) = true) (hi : i < δ1.length) (hn : ds.length ≤ 1000000)
    (h0 : P (δ1.set i none)) (hl : ∀ δ, P δ → δ.length = δ1.length ∧ soft (slot δ i) = true)
    (h : ∀ d ∈ ds, ∀ δ, P δ → ∃ y δ3, E (δ.set i (some (.val d))) = .ok y δ3 ∧ G y ∧ P (δ3.set i none)) :
    calmAt δ1 [i] = true → ∃ acc δ2, fComp [i] I (bName i) fYes E δ = .ok (.list acc) (δ2.set i (slot δ1 i)) ∧ acc.length = ds.length ∧ (∀ y ∈ acc, G y) ∧ P δ2 := by
  intro hc
  have run : ∀ (r : List D) (acc : List D) (δ : DEnv), (∀ d ∈ r, d ∈ ds) → P δ → (∀ y ∈ acc, G y) → ∃ acc2 δ2, compL [i] (bName i) fYes E r acc δ = .ok acc2 δ2 ∧ acc2.length = acc.length + r.length ∧ (∀ y ∈ acc2, G y) ∧ P δ2 := by
    intro r
    induction r with
    | nil => exact fun acc δ _ hp ha => ⟨acc, δ, rfl, rfl, ha, hp⟩
    | cons d r ih =>
      intro acc δ hm hp ha
      obtain ⟨e1, e2⟩ := hl δ hp
      obtain ⟨y, δ3, ey, gy, p3⟩ := h d (hm d List.mem_cons_self) δ hp
      obtain ⟨acc2, δ2, er, ln, ga, p2⟩ := ih (acc ++ [y]) (δ3.set i none) (fun x m => hm x (List.mem_cons_of_mem _ m)) p3 fun z m => by
        rcases List.mem_append.mp m with m | m
        · exact ha z m
        · rw [List.mem_singleton.mp m]
          exact gy
      refine ⟨acc2, δ2, ?_, by rw [ln]; simp; omega, ga, p2⟩
      have fr : free δ i = true := by
        unfold free
        have : isRef δ[i]? = false := by
          rw [slot_eq] at e2
          cases q : δ[i]? with
          | none => rfl
          | some x => cases x with
            | none => rfl
            | some c =>
              rw [q] at e2
              cases c with
              | ref _ => cases e2
              | exc _ _ _ => cases e2
              | _ => rfl
        rw [this, e1]
        simp [hi]
      unfold compL
      have eb : bName i d δ = some (δ.set i (some (.val d))) := if_pos fr
      rw [eb]
      dsimp only [fYes]
      rw [ey]
      exact er
  obtain ⟨acc, δ2, er, ln, ga, p2⟩ := run ds [] (δ1.set i none) (fun _ m => m) h0 (fun _ m => by cases m)
  refine ⟨acc, δ2, ?_, by simpa using ln, ga, p2⟩
  have sl : δ1[i]? = some (slot δ1 i) := by
    rw [slot_eq, List.getElem?_eq_getElem hi]
    rfl
  unfold fComp
  rw [hI, bind_ok, if_pos ⟨hc, hn⟩]
  show (match compL [i] (bName i) fYes E ds [] (δ1.set i none) with
    | .ok acc δ2 => if δ2.length = δ1.length then R.ok (PyData.list acc) (back δ1 [i] δ2) else .bad
    | _ => .bad) = _
  rw [er]
  dsimp only
  rw [if_pos (hl δ2 p2).1]
  unfold back
  rw [sl]
  rfl
/-- .. where nothing is changed -/
theorem comp_map {i : Nat} {I : Fe (List D)} {T : Fe Bool} {E : Fe D} {δ1 : DEnv} {ds : List D} (t : D → Bool) (f : D → D) (hI : I δ = .ok ds δ1) (hi : i < δ1.length) (hc : calmAt δ1 [i] = true) (hn : ds.length ≤ 1000000)
    (h : ∀ d ∈ ds, T (δ1.set i (some (.val d))) = .ok (t d) (δ1.set i (some (.val d))) ∧ (t d = true → E (δ1.set i (some (.val d))) = .ok (f d) (δ1.set i (some (.val d))))) :
    fComp [i] I (bName i) T E δ = .ok (.list ((ds.filter t).map f)) δ1 := by
  have s2 : ∀ (x : Option Cell) (y : Option Cell), (δ1.set i x).set i y = δ1.set i y := fun x y => by simp
  have fr : free (δ1.set i none) i = true := by
    unfold free
    simp [hi, isRef]
  have eb : ∀ d, bName i d (δ1.set i none) = some (δ1.set i (some (.val d))) := fun d => by
    have e : bName i d (δ1.set i none) = some ((δ1.set i none).set i (some (.val d))) := if_pos fr
    rw [e, s2]
  have run : ∀ (r acc : List D), (∀ d ∈ r, d ∈ ds) → compL [i] (bName i) T E r acc (δ1.set i none) = .ok (acc ++ (r.filter t).map f) (δ1.set i none) := by
    intro r
    induction r with
    | nil =>
      intro acc _
      simp [compL]
    | cons d r ih =>
      intro acc hm
      obtain ⟨h1, h2⟩ := h d (hm d List.mem_cons_self)
      have ih' := fun acc => ih acc fun x m => hm x (List.mem_cons_of_mem _ m)
      unfold compL
      rw [eb]
      dsimp only
      rw [h1]
      cases ht : t d with
      | false =>
        dsimp only
        have w : wipeE (δ1.set i (some (.val d))) [i] = δ1.set i none := s2 _ _
        rw [w, ih', List.filter_cons_of_neg (by simp [ht])]
      | true =>
        dsimp only
        rw [h2 ht]
        have w : wipeE (δ1.set i (some (.val d))) [i] = δ1.set i none := s2 _ _
        dsimp only
        rw [w, ih', List.filter_cons_of_pos ht]
        simp
  have sl : δ1[i]? = some (slot δ1 i) := by
    rw [slot_eq, List.getElem?_eq_getElem hi]
    rfl
  unfold fComp
  rw [hI, bind_ok, if_pos ⟨hc, hn⟩]
  show (match compL [i] (bName i) T E ds [] (δ1.set i none) with
    | .ok acc δ2 => if δ2.length = δ1.length then R.ok (PyData.list acc) (back δ1 [i] δ2) else .bad
    | _ => .bad) = _
  rw [run ds [] fun _ m => m]
  dsimp only
  rw [if_pos (by simp)]
  unfold back
  rw [sl]
  dsimp only [back]
  rw [s2]
  have : δ1.set i (slot δ1 i) = δ1 := by
    rw [slot_eq, List.getElem?_eq_getElem hi]
    simp
  rw [this]
  simp
end
end Dl

set_option Elab.async false
set_option linter.all false
set_option maxRecDepth 100000
/-! Dl15: operations on data; the law's bag. -/
namespace Dl
open PySem PySem.Spec PyProof.Rows L2
section
variable {a b : Int} {x y : Str} {p q : Bool} {xs ys : List D} {d e : D}
theorem addF_i : addF (.int a) (.int b) = some (.int (a + b)) := rfl
theorem addF_l (h : xs.length + ys.length ≤ 1000000) : addF (.list xs) (.list ys) = some (.list (xs ++ ys)) := if_pos h
theorem subF_i : subF (.int a) (.int b) = some (.int (a - b)) := rfl
theorem mulF_l (h : -(2 ^ 64) < a ∧ a < 2 ^ 64) : mulF (.int a) (.int b) = some (.int (a * b)) := if_pos (.inl (.inl h))
theorem mulF_r (h : -(2 ^ 64) < b ∧ b < 2 ^ 64) : mulF (.int a) (.int b) = some (.int (a * b)) := if_pos (.inl (.inr h))
theorem log_lt {n k : Nat} (h : n < 2 ^ k) (hk : 0 < k) : n.log2 < k := by
  by_cases z : n = 0
  · subst z
    simpa using hk
  · exact (Nat.log2_lt z).mpr h
theorem divF_i (h : 0 < b) (h2 : b < 2 ^ 64) : divF (.int a) (.int b) = some (.int (a / b)) := if_pos ⟨h, Nat.lt_trans (log_lt (k := 64) (by omega) (by omega)) (by omega)⟩
theorem modF_i (h : 0 < b) : modF (.int a) (.int b) = some (.int (a % b)) := if_pos h
theorem eqF_i : eqF (.int a) (.int b) = some (.bool (decide (a = b))) := rfl
theorem eqF_s : eqF (.str x) (.str y) = some (.bool (decide (x = y))) := rfl
theorem neF_i : neF (.int a) (.int b) = some (.bool (!decide (a = b))) := rfl
theorem neF_s : neF (.str x) (.str y) = some (.bool (!decide (x = y))) := rfl
theorem ltF_i : ltF (.int a) (.int b) = some (.bool (decide (a < b))) := by
  show some (PyData.bool (PySem.W.dataLt (.int a) (.int b))) = _
  rw [PySem.W.dataLt_int]
theorem gtF_i : gtF (.int a) (.int b) = some (.bool (decide (b < a))) := by
  show some (PyData.bool (PySem.W.dataLt (.int b) (.int a))) = _
  rw [PySem.W.dataLt_int]
theorem leF_i : leF (.int a) (.int b) = some (.bool (decide (a ≤ b))) := by
  show some (PyData.bool (!PySem.W.dataLt (.int b) (.int a))) = _
  rw [PySem.W.dataLt_int]
  congr 2
  by_cases h : b < a
  · rw [decide_eq_true h, decide_eq_false (by omega)]
    rfl
  · rw [decide_eq_false h, decide_eq_true (by omega)]
    rfl
theorem geF_i : geF (.int a) (.int b) = some (.bool (decide (b ≤ a))) := leF_i (a := b) (b := a)
theorem isF_n : isF d .none = some (.bool (isNoneD d)) := rfl
theorem isnF_n : isnF d .none = some (.bool (!isNoneD d)) := rfl
theorem itF_l : itF (.list xs) (.int a) = atI xs a := rfl
theorem itF_t : itF (.tuple xs) (.int a) = atI xs a := rfl
theorem itF_s (h : x.length ≤ 1000000) : itF (.str x) (.int a) = (atI x.cps.toList a).map fun c => .str ⟨#[c]⟩ := if_pos h
theorem lenF_l : lenF [.list xs] = some (.int xs.length) := rfl
theorem lenF_t : lenF [.tuple xs] = some (.int xs.length) := rfl
theorem absF_i : absF [.int a] = some (.int (if a < 0 then -a else a)) := rfl
theorem intF_i : intF [.int a] = some (.int a) := rfl
theorem intF_b : intF [.bool p] = some (.int (if p then 1 else 0)) := rfl
theorem negF_i : negF (.int a) = some (.int (-a)) := rfl
theorem revF_l : revF (.list xs) = some (.list xs.reverse) := rfl
@[irreducible] def mx (a b : Int) : Int := if b > a then b else a
@[irreducible] def mn (a b : Int) : Int := if b < a then b else a
theorem mx_b (a b : Int) : a ≤ mx a b ∧ b ≤ mx a b ∧ (mx a b = a ∨ mx a b = b) := by
  unfold mx
  split <;> omega
theorem maxF_i : maxF [.int a, .int b] = some (.int (mx a b)) := by
  unfold mx
  rfl
theorem minF_i : minF [.int a, .int b] = some (.int (mn a b)) := by
  unfold mn
  rfl
theorem listF_l : listF [.list xs] = some (.list xs) := rfl
theorem listF_t : listF [.tuple xs] = some (.list xs) := rfl
theorem sliceF_l {l u : Option Int} : sliceF (.list xs) l u = some (.list (cutD xs l u)) := rfl
theorem sliceF_t {l u : Option Int} : sliceF (.tuple xs) l u = some (.tuple (cutD xs l u)) := rfl
theorem joinM_l {ws : List Str} (h : strsOf xs = some ws) (hl : (ws.map (·.length)).sum + ws.length * x.length ≤ 1000000) : joinM (.str x) [.list xs] = some (.str (Txt.join x ws)) := by
  show (strsOf xs).bind _ = _
  rw [h]
  exact if_pos hl
/-! ### the bag -/
/-- what is left of a great number, the running number, the place, the cells -/
structure Bg where
  rest : Int
  run : Int
  at_ : Nat
  cells : List Int
def bagD (b : Bg) : D := .list [.int b.rest, .int b.run, .int (b.at_ : Int), .list (b.cells.map .int)]
/-- the next cell is drawn, where nothing is left -/
def Bg.cell (b : Bg) : Int := if b.at_ < b.cells.length then b.cells.getD b.at_ 0 else 0
def Bg.fresh (b : Bg) : Bg :=
  if b.rest = 0 then
    { rest := if 1000000000000000000 ≤ b.cell then b.cell else b.rest, run := (b.run * 48271 + b.cell % 2147483647 + 7919 * ((b.at_ : Int) + 1)) % 2147483647, at_ := b.at_ + 1, cells := b.cells }
  else b
@[irreducible] def takeV (b : Bg) (m : Int) : Int :=
  if 0 < b.fresh.rest then b.fresh.rest % m else
    let f := (b.fresh.run + 1) * 39373 % 1000000007
    let s := f * f % 998244353 * 30011 % 998244353
    if 1000000 < m then (s * 1000000007 + f) % m else s / 7 % m
@[irreducible] def takeB (b : Bg) (m : Int) : Bg := if 0 < b.fresh.rest then { b.fresh with rest := b.fresh.rest / m } else b.fresh
theorem takeV_nn {b : Bg} {m : Int} (h : 0 < m) : 0 ≤ takeV b m := by
  unfold takeV
  split
  · exact Int.emod_nonneg _ (by omega)
  · dsimp only
    split
    · exact Int.emod_nonneg _ (by omega)
    · exact Int.emod_nonneg _ (by omega)
theorem takeV_lt {b : Bg} {m : Int} (h : 0 < m) : takeV b m < m := by
  unfold takeV
  split
  · exact Int.emod_lt_of_pos _ h
  · dsimp only
    split
    · exact Int.emod_lt_of_pos _ h
    · exact Int.emod_lt_of_pos _ h
end
end Dl

set_option Elab.async false
set_option linter.all false
set_option maxRecDepth 100000
set_option maxHeartbeats 0
namespace Dl
open PySem PySem.Spec PyProof.Rows L2
namespace Bag
/-! take: 0 bag 1 many 2 cell 3 value 4 first 5 second -/
def F_1 : Fs := (sIf (fB (fBin eqF (fOf (fBin itF (pkVar 0) (fOf (fC (.int 0))))) (fOf (fC (.int 0))))) (sSeq (sSet 2 (fC (.int 0)))
  (sSeq (sIf (fB (fBin ltF (fOf (fBin itF (pkVar 0) (fOf (fC (.int 2))))) (fOf (fCall lenF (lCons (fOf (fBin itF (pkVar 0) (fOf (fC (.int 3))))) lNil))))) (sSet 2 (fBin itF (fOf (fBin itF (pkVar 0) (fOf (fC (.int 3))))) (fOf (fBin itF (pkVar 0) (fOf (fC (.int 2))))))) sNext)
  (sSeq (sAugI 0 (fun a b => a + b) (fC (.int 2)) (fC (.int 1)))
  (sSeq (sIf (fB (fBin geF (pkVar 2) (fOf (fC (.int 1000000000000000000))))) (sItem 0 (fC (.int 0)) (rdVar 2)) sNext)
  (sItem 0 (fC (.int 1)) (fBin modF (fOf (fBin addF (fOf (fBin addF (fOf (fBin mulF (fOf (fBin itF (pkVar 0) (fOf (fC (.int 1))))) (fOf (fC (.int 48271))))) (fOf (fBin modF (pkVar 2) (fOf (fC (.int 2147483647))))))) (fOf (fBin mulF (fOf (fC (.int 7919))) (fOf (fBin itF (pkVar 0) (fOf (fC (.int 2))))))))) (fOf (fC (.int 2147483647))))))))) sNext)
def F_2 : Fs := (sSeq (sIf (fB (fBin gtF (fOf (fBin itF (pkVar 0) (fOf (fC (.int 0))))) (fOf (fC (.int 0))))) (sSeq (sSet 3 (fBin modF (fOf (fBin itF (pkVar 0) (fOf (fC (.int 0))))) (pkVar 1)))
  (sSeq (sItem 0 (fC (.int 0)) (fBin divF (fOf (fBin itF (pkVar 0) (fOf (fC (.int 0))))) (pkVar 1)))
  (sRetV 3))) sNext)
  (sSeq (sSet 4 (fBin modF (fOf (fBin mulF (fOf (fBin addF (fOf (fBin itF (pkVar 0) (fOf (fC (.int 1))))) (fOf (fC (.int 1))))) (fOf (fC (.int 39373))))) (fOf (fC (.int 1000000007)))))
  (sSeq (sSet 5 (fBin modF (fOf (fBin mulF (fOf (fBin modF (fOf (fBin mulF (pkVar 4) (pkVar 4))) (fOf (fC (.int 998244353))))) (fOf (fC (.int 30011))))) (fOf (fC (.int 998244353)))))
  (sSeq (sIf (fB (fBin gtF (pkVar 1) (fOf (fC (.int 1000000))))) (sRet (fBin modF (fOf (fBin addF (fOf (fBin mulF (pkVar 5) (fOf (fC (.int 1000000007))))) (pkVar 4))) (pkVar 1))) sNext)
  (sRet (fBin modF (fOf (fBin divF (pkVar 5) (fOf (fC (.int 7))))) (pkVar 1)))))))
def m_ztake : Mir := mir 2 6 (sSeq F_1 F_2)
/-! zbag: 0 zscript 1 zcell -/
def F_zbag : Fs :=
  (sRetO (fLst (fCons (fC (.int 0)) (fCons (fC (.int 1234567891)) (fCons (fC (.int 0)) (fCons (fComp [1] (iAny (fSlice (pkVar 0) ptNone (ptSome (fC (.int 63))))) (bName 1) fYes (fCall absF (lCons (pkVar 1) lNil))) fNil))))))
def m_zbag : Mir := mir 1 2 F_zbag

theorem dt {p : Prop} [Decidable p] (h : p) : decide p = true := decide_eq_true h
theorem df {p : Prop} [Decidable p] (h : ¬ p) : decide p = false := decide_eq_false h
theorem first_e (b : Bg) (m : Int) : ∃ x, soft x = true ∧ F_1 [some (.ref (bagD b)), some (.val (.int m)), none, none, none, none] = .next [some (.ref (bagD b.fresh)), some (.val (.int m)), x, none, none, none] := by
  obtain ⟨r, n, k, cs⟩ := b
  unfold F_1 bagD
  have e1 : ((k + 1 : Nat) : Int) = (k : Int) + 1 := by omega
  by_cases hr : r = 0
  · by_cases hk : k < cs.length
    · have ek : ((k : Int) < (cs.length : Int)) := by omega
      have ec : atN (cs.map PyData.int) k = some (.int (cs.getD k 0)) := by
        rw [atN_get, List.getElem?_map, List.getD_eq_getElem?_getD, List.getElem?_eq_getElem hk]
        rfl
      refine ⟨some (.val (.int (cs.getD k 0))), rfl, ?_⟩
      by_cases hc : 1000000000000000000 ≤ cs.getD k 0
      · simp only [bind_ok, bind_err, bindS_ok, bindS_err, of_some, slot0, slotS, rdVar_e, rdC_val, rdC_own, cellD_val, cellD_own, cellD_ref, pkVar_e, pkC_some, opd_tmp, opd_var, lendC_own, lendC_ref, stor_n, stor_v, stor_o, stor_hit, eq_self, stor_next, map_some', soft_none, soft_val, soft_own, fC_e, fOf_e, ofK_e, op2_e, fBin_e, bin1_e, bin2_e, op1_e, fUn_e, un1_e, fNil_e, fCons_e, cons1_e, cons2_e, apCons_e, fTup_e, fLst_e, tup1_e, lst1_e, lNil_e, lCons_e, lc1_e, lc2_e, opL_nil, opL_cons, op2L_e, opN_e, fCall_e, call1_e, fIsi_e, isi1_e, fMeth_e, meth1_e, methT_s, methT_l, meth2_e, opM_e, fSlice_e, sl1_e, sl2_e, sl3_e, ptNone_e, ptSome_e, toPt_e, toB_e, fB_e, fChain_e, ch1_e, ch2_e, ch3_t, ch3_f, ch4_e, fAnd_e, fOr_e, fNot_e, and1_t, and1_f, or1_t, or1_f, not1_e, fAndV_e, fOrV_e, fNotV_e, andV1_t, andV1_f, orV1_t, orV1_f, notV1_e, fIf_e, if1_t, if1_f, fV_e, fVO_e, v1_e, vO1_e, cellRes_ok, toVal_v, toVal_o, toOwn_o, mapV0, mapV1, apHead_e, apH1_e, apH2_e, fR_e, r1_e, r2_0, r2_1, back1_0, back1_S, backC_own, backC_ref, cellResR_e, cR_ref, cR_none, sSeq_e, seq1_n, seq1_r, seq1_b, seq1_c, sNext_e, sDrop_e, drop1_e, sRet_e, sRetO_e, ret1_e, retO1_e, sRetN_e, sRetV_e, retC_v, retC_o, nextO_e, sSet_e, sSetO_e, set1_e, setO1_e, bName_e, bNil_e, bCons_e, bCons1_e, sAsg_e, asg1_e, storN_e, par1_e, sAugN_e, augN0_e, augN1_e, sIf_e, sif1_t, sif1_f, sFor_e, sfor1_e, iAny_e, anyI_l, anyI_t, anyI_s, iRng1_e, atI_0, atI_1, atI_2, atI_3, atI_4, atI_5, atI_6, atI_7, atI_8, atI_9, atI_10, atI_11, atI_12, atN_0, atN_S, lset_0, lset_S, mapc, putN_e, sItem_e, item1_e, item2_e, item3_e, item4_0, item4_1, item4_2, item4_3, item4_4, item4_5, item4_6, item4_7, item4_8, item4_9, sAugI_e, augIs_e, augIk_e, augI0_0, augI0_1, augI0_2, augI0_3, augI0_4, augI0_5, augI1_e, augI2_e, augI3_e, sApp_e, app0_e, app1_e, mir_e, runBody_e, fin_r, fin_n, outs_n, outs_v, outs_r, addF_i, subF_i, eqF_i, eqF_s, neF_i, neF_s, ltF_i, gtF_i, leF_i, geF_i, isF_n, isnF_n, itF_l, itF_t, lenF_l, lenF_t, absF_i, intF_i, intF_b, negF_i, revF_l, maxF_i, minF_i, listF_l, listF_t, sliceF_l, sliceF_t, List.length_map, List.set_cons_zero, List.set_cons_succ, Int.reducePow, Int.reduceNeg, Int.reduceLT, Int.reduceLE, Int.reduceMod, Int.reduceDiv, decide_true, decide_false, if_true, if_false, and_self, Nat.reduceAdd, Nat.reduceSub, Nat.reduceLeDiff, List.length_cons, List.length_nil, List.map_cons, List.map_nil, List.cons_append, List.nil_append, List.replicate, mulF_l, mulF_r, modF_i, divF_i, dt hr, dt ek, dt hc, atI_nat', ec, Bg.fresh, Bg.cell, if_pos hr, if_pos hk, if_pos hc, e1]
      · simp only [bind_ok, bind_err, bindS_ok, bindS_err, of_some, slot0, slotS, rdVar_e, rdC_val, rdC_own, cellD_val, cellD_own, cellD_ref, pkVar_e, pkC_some, opd_tmp, opd_var, lendC_own, lendC_ref, stor_n, stor_v, stor_o, stor_hit, eq_self, stor_next, map_some', soft_none, soft_val, soft_own, fC_e, fOf_e, ofK_e, op2_e, fBin_e, bin1_e, bin2_e, op1_e, fUn_e, un1_e, fNil_e, fCons_e, cons1_e, cons2_e, apCons_e, fTup_e, fLst_e, tup1_e, lst1_e, lNil_e, lCons_e, lc1_e, lc2_e, opL_nil, opL_cons, op2L_e, opN_e, fCall_e, call1_e, fIsi_e, isi1_e, fMeth_e, meth1_e, methT_s, methT_l, meth2_e, opM_e, fSlice_e, sl1_e, sl2_e, sl3_e, ptNone_e, ptSome_e, toPt_e, toB_e, fB_e, fChain_e, ch1_e, ch2_e, ch3_t, ch3_f, ch4_e, fAnd_e, fOr_e, fNot_e, and1_t, and1_f, or1_t, or1_f, not1_e, fAndV_e, fOrV_e, fNotV_e, andV1_t, andV1_f, orV1_t, orV1_f, notV1_e, fIf_e, if1_t, if1_f, fV_e, fVO_e, v1_e, vO1_e, cellRes_ok, toVal_v, toVal_o, toOwn_o, mapV0, mapV1, apHead_e, apH1_e, apH2_e, fR_e, r1_e, r2_0, r2_1, back1_0, back1_S, backC_own, backC_ref, cellResR_e, cR_ref, cR_none, sSeq_e, seq1_n, seq1_r, seq1_b, seq1_c, sNext_e, sDrop_e, drop1_e, sRet_e, sRetO_e, ret1_e, retO1_e, sRetN_e, sRetV_e, retC_v, retC_o, nextO_e, sSet_e, sSetO_e, set1_e, setO1_e, bName_e, bNil_e, bCons_e, bCons1_e, sAsg_e, asg1_e, storN_e, par1_e, sAugN_e, augN0_e, augN1_e, sIf_e, sif1_t, sif1_f, sFor_e, sfor1_e, iAny_e, anyI_l, anyI_t, anyI_s, iRng1_e, atI_0, atI_1, atI_2, atI_3, atI_4, atI_5, atI_6, atI_7, atI_8, atI_9, atI_10, atI_11, atI_12, atN_0, atN_S, lset_0, lset_S, mapc, putN_e, sItem_e, item1_e, item2_e, item3_e, item4_0, item4_1, item4_2, item4_3, item4_4, item4_5, item4_6, item4_7, item4_8, item4_9, sAugI_e, augIs_e, augIk_e, augI0_0, augI0_1, augI0_2, augI0_3, augI0_4, augI0_5, augI1_e, augI2_e, augI3_e, sApp_e, app0_e, app1_e, mir_e, runBody_e, fin_r, fin_n, outs_n, outs_v, outs_r, addF_i, subF_i, eqF_i, eqF_s, neF_i, neF_s, ltF_i, gtF_i, leF_i, geF_i, isF_n, isnF_n, itF_l, itF_t, lenF_l, lenF_t, absF_i, intF_i, intF_b, negF_i, revF_l, maxF_i, minF_i, listF_l, listF_t, sliceF_l, sliceF_t, List.length_map, List.set_cons_zero, List.set_cons_succ, Int.reducePow, Int.reduceNeg, Int.reduceLT, Int.reduceLE, Int.reduceMod, Int.reduceDiv, decide_true, decide_false, if_true, if_false, and_self, Nat.reduceAdd, Nat.reduceSub, Nat.reduceLeDiff, List.length_cons, List.length_nil, List.map_cons, List.map_nil, List.cons_append, List.nil_append, List.replicate, mulF_l, mulF_r, modF_i, divF_i, dt hr, dt ek, df hc, atI_nat', ec, Bg.fresh, Bg.cell, if_pos hr, if_pos hk, if_neg hc, e1]
    · have ek : ¬ ((k : Int) < (cs.length : Int)) := by omega
      refine ⟨some (.val (.int 0)), rfl, ?_⟩
      simp only [bind_ok, bind_err, bindS_ok, bindS_err, of_some, slot0, slotS, rdVar_e, rdC_val, rdC_own, cellD_val, cellD_own, cellD_ref, pkVar_e, pkC_some, opd_tmp, opd_var, lendC_own, lendC_ref, stor_n, stor_v, stor_o, stor_hit, eq_self, stor_next, map_some', soft_none, soft_val, soft_own, fC_e, fOf_e, ofK_e, op2_e, fBin_e, bin1_e, bin2_e, op1_e, fUn_e, un1_e, fNil_e, fCons_e, cons1_e, cons2_e, apCons_e, fTup_e, fLst_e, tup1_e, lst1_e, lNil_e, lCons_e, lc1_e, lc2_e, opL_nil, opL_cons, op2L_e, opN_e, fCall_e, call1_e, fIsi_e, isi1_e, fMeth_e, meth1_e, methT_s, methT_l, meth2_e, opM_e, fSlice_e, sl1_e, sl2_e, sl3_e, ptNone_e, ptSome_e, toPt_e, toB_e, fB_e, fChain_e, ch1_e, ch2_e, ch3_t, ch3_f, ch4_e, fAnd_e, fOr_e, fNot_e, and1_t, and1_f, or1_t, or1_f, not1_e, fAndV_e, fOrV_e, fNotV_e, andV1_t, andV1_f, orV1_t, orV1_f, notV1_e, fIf_e, if1_t, if1_f, fV_e, fVO_e, v1_e, vO1_e, cellRes_ok, toVal_v, toVal_o, toOwn_o, mapV0, mapV1, apHead_e, apH1_e, apH2_e, fR_e, r1_e, r2_0, r2_1, back1_0, back1_S, backC_own, backC_ref, cellResR_e, cR_ref, cR_none, sSeq_e, seq1_n, seq1_r, seq1_b, seq1_c, sNext_e, sDrop_e, drop1_e, sRet_e, sRetO_e, ret1_e, retO1_e, sRetN_e, sRetV_e, retC_v, retC_o, nextO_e, sSet_e, sSetO_e, set1_e, setO1_e, bName_e, bNil_e, bCons_e, bCons1_e, sAsg_e, asg1_e, storN_e, par1_e, sAugN_e, augN0_e, augN1_e, sIf_e, sif1_t, sif1_f, sFor_e, sfor1_e, iAny_e, anyI_l, anyI_t, anyI_s, iRng1_e, atI_0, atI_1, atI_2, atI_3, atI_4, atI_5, atI_6, atI_7, atI_8, atI_9, atI_10, atI_11, atI_12, atN_0, atN_S, lset_0, lset_S, mapc, putN_e, sItem_e, item1_e, item2_e, item3_e, item4_0, item4_1, item4_2, item4_3, item4_4, item4_5, item4_6, item4_7, item4_8, item4_9, sAugI_e, augIs_e, augIk_e, augI0_0, augI0_1, augI0_2, augI0_3, augI0_4, augI0_5, augI1_e, augI2_e, augI3_e, sApp_e, app0_e, app1_e, mir_e, runBody_e, fin_r, fin_n, outs_n, outs_v, outs_r, addF_i, subF_i, eqF_i, eqF_s, neF_i, neF_s, ltF_i, gtF_i, leF_i, geF_i, isF_n, isnF_n, itF_l, itF_t, lenF_l, lenF_t, absF_i, intF_i, intF_b, negF_i, revF_l, maxF_i, minF_i, listF_l, listF_t, sliceF_l, sliceF_t, List.length_map, List.set_cons_zero, List.set_cons_succ, Int.reducePow, Int.reduceNeg, Int.reduceLT, Int.reduceLE, Int.reduceMod, Int.reduceDiv, decide_true, decide_false, if_true, if_false, and_self, Nat.reduceAdd, Nat.reduceSub, Nat.reduceLeDiff, List.length_cons, List.length_nil, List.map_cons, List.map_nil, List.cons_append, List.nil_append, List.replicate, mulF_l, mulF_r, modF_i, divF_i, dt hr, df ek, atI_nat', Bg.fresh, Bg.cell, if_pos hr, if_neg hk, e1]
  · refine ⟨none, rfl, ?_⟩
    simp only [bind_ok, bind_err, bindS_ok, bindS_err, of_some, slot0, slotS, rdVar_e, rdC_val, rdC_own, cellD_val, cellD_own, cellD_ref, pkVar_e, pkC_some, opd_tmp, opd_var, lendC_own, lendC_ref, stor_n, stor_v, stor_o, stor_hit, eq_self, stor_next, map_some', soft_none, soft_val, soft_own, fC_e, fOf_e, ofK_e, op2_e, fBin_e, bin1_e, bin2_e, op1_e, fUn_e, un1_e, fNil_e, fCons_e, cons1_e, cons2_e, apCons_e, fTup_e, fLst_e, tup1_e, lst1_e, lNil_e, lCons_e, lc1_e, lc2_e, opL_nil, opL_cons, op2L_e, opN_e, fCall_e, call1_e, fIsi_e, isi1_e, fMeth_e, meth1_e, methT_s, methT_l, meth2_e, opM_e, fSlice_e, sl1_e, sl2_e, sl3_e, ptNone_e, ptSome_e, toPt_e, toB_e, fB_e, fChain_e, ch1_e, ch2_e, ch3_t, ch3_f, ch4_e, fAnd_e, fOr_e, fNot_e, and1_t, and1_f, or1_t, or1_f, not1_e, fAndV_e, fOrV_e, fNotV_e, andV1_t, andV1_f, orV1_t, orV1_f, notV1_e, fIf_e, if1_t, if1_f, fV_e, fVO_e, v1_e, vO1_e, cellRes_ok, toVal_v, toVal_o, toOwn_o, mapV0, mapV1, apHead_e, apH1_e, apH2_e, fR_e, r1_e, r2_0, r2_1, back1_0, back1_S, backC_own, backC_ref, cellResR_e, cR_ref, cR_none, sSeq_e, seq1_n, seq1_r, seq1_b, seq1_c, sNext_e, sDrop_e, drop1_e, sRet_e, sRetO_e, ret1_e, retO1_e, sRetN_e, sRetV_e, retC_v, retC_o, nextO_e, sSet_e, sSetO_e, set1_e, setO1_e, bName_e, bNil_e, bCons_e, bCons1_e, sAsg_e, asg1_e, storN_e, par1_e, sAugN_e, augN0_e, augN1_e, sIf_e, sif1_t, sif1_f, sFor_e, sfor1_e, iAny_e, anyI_l, anyI_t, anyI_s, iRng1_e, atI_0, atI_1, atI_2, atI_3, atI_4, atI_5, atI_6, atI_7, atI_8, atI_9, atI_10, atI_11, atI_12, atN_0, atN_S, lset_0, lset_S, mapc, putN_e, sItem_e, item1_e, item2_e, item3_e, item4_0, item4_1, item4_2, item4_3, item4_4, item4_5, item4_6, item4_7, item4_8, item4_9, sAugI_e, augIs_e, augIk_e, augI0_0, augI0_1, augI0_2, augI0_3, augI0_4, augI0_5, augI1_e, augI2_e, augI3_e, sApp_e, app0_e, app1_e, mir_e, runBody_e, fin_r, fin_n, outs_n, outs_v, outs_r, addF_i, subF_i, eqF_i, eqF_s, neF_i, neF_s, ltF_i, gtF_i, leF_i, geF_i, isF_n, isnF_n, itF_l, itF_t, lenF_l, lenF_t, absF_i, intF_i, intF_b, negF_i, revF_l, maxF_i, minF_i, listF_l, listF_t, sliceF_l, sliceF_t, List.length_map, List.set_cons_zero, List.set_cons_succ, Int.reducePow, Int.reduceNeg, Int.reduceLT, Int.reduceLE, Int.reduceMod, Int.reduceDiv, decide_true, decide_false, if_true, if_false, and_self, Nat.reduceAdd, Nat.reduceSub, Nat.reduceLeDiff, List.length_cons, List.length_nil, List.map_cons, List.map_nil, List.cons_append, List.nil_append, List.replicate, mulF_l, mulF_r, modF_i, divF_i, df hr, Bg.fresh, if_neg hr]
/-- a call takes the next number below m -/
theorem take_e (b : Bg) (m : Int) (h0 : 0 < m) (h1 : m < 2 ^ 64) : m_ztake [.ref (bagD b), .val (.int m)] = .ok (.val (.int (takeV b m))) [some (.ref (bagD (takeB b m))), none] := by
  obtain ⟨x, hx, e⟩ := first_e b m
  have h1' : m < 18446744073709551616 := h1
  unfold m_ztake takeV takeB
  generalize b.fresh = c at e ⊢
  obtain ⟨r, n, k, cs⟩ := c
  have em : (-18446744073709551616 < m ∧ m < 18446744073709551616) := by omega
  rw [mir_e (by rfl), runBody_e]
  show fin [.ref (bagD b), .val (.int m)] (sSeq F_1 F_2 [some (.ref (bagD b)), some (.val (.int m)), none, none, none, none]) = _
  rw [sSeq_e, e, seq1_n]
  unfold F_2 bagD
  have f0 : 0 ≤ (n + 1) * 39373 % 1000000007 := Int.emod_nonneg _ (by omega)
  have f1 : (n + 1) * 39373 % 1000000007 < 1000000007 := Int.emod_lt_of_pos _ (by omega)
  have f2 : -18446744073709551616 < (n + 1) * 39373 % 1000000007 ∧ (n + 1) * 39373 % 1000000007 < 18446744073709551616 := by omega
  by_cases hr : 0 < r
  · simp only [bind_ok, bind_err, bindS_ok, bindS_err, of_some, slot0, slotS, rdVar_e, rdC_val, rdC_own, cellD_val, cellD_own, cellD_ref, pkVar_e, pkC_some, opd_tmp, opd_var, lendC_own, lendC_ref, stor_n, stor_v, stor_o, stor_hit, eq_self, stor_next, map_some', soft_none, soft_val, soft_own, fC_e, fOf_e, ofK_e, op2_e, fBin_e, bin1_e, bin2_e, op1_e, fUn_e, un1_e, fNil_e, fCons_e, cons1_e, cons2_e, apCons_e, fTup_e, fLst_e, tup1_e, lst1_e, lNil_e, lCons_e, lc1_e, lc2_e, opL_nil, opL_cons, op2L_e, opN_e, fCall_e, call1_e, fIsi_e, isi1_e, fMeth_e, meth1_e, methT_s, methT_l, meth2_e, opM_e, fSlice_e, sl1_e, sl2_e, sl3_e, ptNone_e, ptSome_e, toPt_e, toB_e, fB_e, fChain_e, ch1_e, ch2_e, ch3_t, ch3_f, ch4_e, fAnd_e, fOr_e, fNot_e, and1_t, and1_f, or1_t, or1_f, not1_e, fAndV_e, fOrV_e, fNotV_e, andV1_t, andV1_f, orV1_t, orV1_f, notV1_e, fIf_e, if1_t, if1_f, fV_e, fVO_e, v1_e, vO1_e, cellRes_ok, toVal_v, toVal_o, toOwn_o, mapV0, mapV1, apHead_e, apH1_e, apH2_e, fR_e, r1_e, r2_0, r2_1, back1_0, back1_S, backC_own, backC_ref, cellResR_e, cR_ref, cR_none, sSeq_e, seq1_n, seq1_r, seq1_b, seq1_c, sNext_e, sDrop_e, drop1_e, sRet_e, sRetO_e, ret1_e, retO1_e, sRetN_e, sRetV_e, retC_v, retC_o, nextO_e, sSet_e, sSetO_e, set1_e, setO1_e, bName_e, bNil_e, bCons_e, bCons1_e, sAsg_e, asg1_e, storN_e, par1_e, sAugN_e, augN0_e, augN1_e, sIf_e, sif1_t, sif1_f, sFor_e, sfor1_e, iAny_e, anyI_l, anyI_t, anyI_s, iRng1_e, atI_0, atI_1, atI_2, atI_3, atI_4, atI_5, atI_6, atI_7, atI_8, atI_9, atI_10, atI_11, atI_12, atN_0, atN_S, lset_0, lset_S, mapc, putN_e, sItem_e, item1_e, item2_e, item3_e, item4_0, item4_1, item4_2, item4_3, item4_4, item4_5, item4_6, item4_7, item4_8, item4_9, sAugI_e, augIs_e, augIk_e, augI0_0, augI0_1, augI0_2, augI0_3, augI0_4, augI0_5, augI1_e, augI2_e, augI3_e, sApp_e, app0_e, app1_e, mir_e, runBody_e, fin_r, fin_n, outs_n, outs_v, outs_r, addF_i, subF_i, eqF_i, eqF_s, neF_i, neF_s, ltF_i, gtF_i, leF_i, geF_i, isF_n, isnF_n, itF_l, itF_t, lenF_l, lenF_t, absF_i, intF_i, intF_b, negF_i, revF_l, maxF_i, minF_i, listF_l, listF_t, sliceF_l, sliceF_t, List.length_map, List.set_cons_zero, List.set_cons_succ, Int.reducePow, Int.reduceNeg, Int.reduceLT, Int.reduceLE, Int.reduceMod, Int.reduceDiv, decide_true, decide_false, if_true, if_false, and_self, Nat.reduceAdd, Nat.reduceSub, Nat.reduceLeDiff, List.length_cons, List.length_nil, List.map_cons, List.map_nil, List.cons_append, List.nil_append, List.replicate, mulF_l, mulF_r, modF_i, divF_i, dt hr, hx, if_pos hr, if_true, h0, h1']
  · by_cases hm : 1000000 < m
    · simp only [bind_ok, bind_err, bindS_ok, bindS_err, of_some, slot0, slotS, rdVar_e, rdC_val, rdC_own, cellD_val, cellD_own, cellD_ref, pkVar_e, pkC_some, opd_tmp, opd_var, lendC_own, lendC_ref, stor_n, stor_v, stor_o, stor_hit, eq_self, stor_next, map_some', soft_none, soft_val, soft_own, fC_e, fOf_e, ofK_e, op2_e, fBin_e, bin1_e, bin2_e, op1_e, fUn_e, un1_e, fNil_e, fCons_e, cons1_e, cons2_e, apCons_e, fTup_e, fLst_e, tup1_e, lst1_e, lNil_e, lCons_e, lc1_e, lc2_e, opL_nil, opL_cons, op2L_e, opN_e, fCall_e, call1_e, fIsi_e, isi1_e, fMeth_e, meth1_e, methT_s, methT_l, meth2_e, opM_e, fSlice_e, sl1_e, sl2_e, sl3_e, ptNone_e, ptSome_e, toPt_e, toB_e, fB_e, fChain_e, ch1_e, ch2_e, ch3_t, ch3_f, ch4_e, fAnd_e, fOr_e, fNot_e, and1_t, and1_f, or1_t, or1_f, not1_e, fAndV_e, fOrV_e, fNotV_e, andV1_t, andV1_f, orV1_t, orV1_f, notV1_e, fIf_e, if1_t, if1_f, fV_e, fVO_e, v1_e, vO1_e, cellRes_ok, toVal_v, toVal_o, toOwn_o, mapV0, mapV1, apHead_e, apH1_e, apH2_e, fR_e, r1_e, r2_0, r2_1, back1_0, back1_S, backC_own, backC_ref, cellResR_e, cR_ref, cR_none, sSeq_e, seq1_n, seq1_r, seq1_b, seq1_c, sNext_e, sDrop_e, drop1_e, sRet_e, sRetO_e, ret1_e, retO1_e, sRetN_e, sRetV_e, retC_v, retC_o, nextO_e, sSet_e, sSetO_e, set1_e, setO1_e, bName_e, bNil_e, bCons_e, bCons1_e, sAsg_e, asg1_e, storN_e, par1_e, sAugN_e, augN0_e, augN1_e, sIf_e, sif1_t, sif1_f, sFor_e, sfor1_e, iAny_e, anyI_l, anyI_t, anyI_s, iRng1_e, atI_0, atI_1, atI_2, atI_3, atI_4, atI_5, atI_6, atI_7, atI_8, atI_9, atI_10, atI_11, atI_12, atN_0, atN_S, lset_0, lset_S, mapc, putN_e, sItem_e, item1_e, item2_e, item3_e, item4_0, item4_1, item4_2, item4_3, item4_4, item4_5, item4_6, item4_7, item4_8, item4_9, sAugI_e, augIs_e, augIk_e, augI0_0, augI0_1, augI0_2, augI0_3, augI0_4, augI0_5, augI1_e, augI2_e, augI3_e, sApp_e, app0_e, app1_e, mir_e, runBody_e, fin_r, fin_n, outs_n, outs_v, outs_r, addF_i, subF_i, eqF_i, eqF_s, neF_i, neF_s, ltF_i, gtF_i, leF_i, geF_i, isF_n, isnF_n, itF_l, itF_t, lenF_l, lenF_t, absF_i, intF_i, intF_b, negF_i, revF_l, maxF_i, minF_i, listF_l, listF_t, sliceF_l, sliceF_t, List.length_map, List.set_cons_zero, List.set_cons_succ, Int.reducePow, Int.reduceNeg, Int.reduceLT, Int.reduceLE, Int.reduceMod, Int.reduceDiv, decide_true, decide_false, if_true, if_false, and_self, Nat.reduceAdd, Nat.reduceSub, Nat.reduceLeDiff, List.length_cons, List.length_nil, List.map_cons, List.map_nil, List.cons_append, List.nil_append, List.replicate, mulF_l, mulF_r, modF_i, divF_i, df hr, dt hm, hx, if_neg hr, if_pos hm, h0, h1', f2]
    · simp only [bind_ok, bind_err, bindS_ok, bindS_err, of_some, slot0, slotS, rdVar_e, rdC_val, rdC_own, cellD_val, cellD_own, cellD_ref, pkVar_e, pkC_some, opd_tmp, opd_var, lendC_own, lendC_ref, stor_n, stor_v, stor_o, stor_hit, eq_self, stor_next, map_some', soft_none, soft_val, soft_own, fC_e, fOf_e, ofK_e, op2_e, fBin_e, bin1_e, bin2_e, op1_e, fUn_e, un1_e, fNil_e, fCons_e, cons1_e, cons2_e, apCons_e, fTup_e, fLst_e, tup1_e, lst1_e, lNil_e, lCons_e, lc1_e, lc2_e, opL_nil, opL_cons, op2L_e, opN_e, fCall_e, call1_e, fIsi_e, isi1_e, fMeth_e, meth1_e, methT_s, methT_l, meth2_e, opM_e, fSlice_e, sl1_e, sl2_e, sl3_e, ptNone_e, ptSome_e, toPt_e, toB_e, fB_e, fChain_e, ch1_e, ch2_e, ch3_t, ch3_f, ch4_e, fAnd_e, fOr_e, fNot_e, and1_t, and1_f, or1_t, or1_f, not1_e, fAndV_e, fOrV_e, fNotV_e, andV1_t, andV1_f, orV1_t, orV1_f, notV1_e, fIf_e, if1_t, if1_f, fV_e, fVO_e, v1_e, vO1_e, cellRes_ok, toVal_v, toVal_o, toOwn_o, mapV0, mapV1, apHead_e, apH1_e, apH2_e, fR_e, r1_e, r2_0, r2_1, back1_0, back1_S, backC_own, backC_ref, cellResR_e, cR_ref, cR_none, sSeq_e, seq1_n, seq1_r, seq1_b, seq1_c, sNext_e, sDrop_e, drop1_e, sRet_e, sRetO_e, ret1_e, retO1_e, sRetN_e, sRetV_e, retC_v, retC_o, nextO_e, sSet_e, sSetO_e, set1_e, setO1_e, bName_e, bNil_e, bCons_e, bCons1_e, sAsg_e, asg1_e, storN_e, par1_e, sAugN_e, augN0_e, augN1_e, sIf_e, sif1_t, sif1_f, sFor_e, sfor1_e, iAny_e, anyI_l, anyI_t, anyI_s, iRng1_e, atI_0, atI_1, atI_2, atI_3, atI_4, atI_5, atI_6, atI_7, atI_8, atI_9, atI_10, atI_11, atI_12, atN_0, atN_S, lset_0, lset_S, mapc, putN_e, sItem_e, item1_e, item2_e, item3_e, item4_0, item4_1, item4_2, item4_3, item4_4, item4_5, item4_6, item4_7, item4_8, item4_9, sAugI_e, augIs_e, augIk_e, augI0_0, augI0_1, augI0_2, augI0_3, augI0_4, augI0_5, augI1_e, augI2_e, augI3_e, sApp_e, app0_e, app1_e, mir_e, runBody_e, fin_r, fin_n, outs_n, outs_v, outs_r, addF_i, subF_i, eqF_i, eqF_s, neF_i, neF_s, ltF_i, gtF_i, leF_i, geF_i, isF_n, isnF_n, itF_l, itF_t, lenF_l, lenF_t, absF_i, intF_i, intF_b, negF_i, revF_l, maxF_i, minF_i, listF_l, listF_t, sliceF_l, sliceF_t, List.length_map, List.set_cons_zero, List.set_cons_succ, Int.reducePow, Int.reduceNeg, Int.reduceLT, Int.reduceLE, Int.reduceMod, Int.reduceDiv, decide_true, decide_false, if_true, if_false, and_self, Nat.reduceAdd, Nat.reduceSub, Nat.reduceLeDiff, List.length_cons, List.length_nil, List.map_cons, List.map_nil, List.cons_append, List.nil_append, List.replicate, mulF_l, mulF_r, modF_i, divF_i, df hr, df hm, hx, if_neg hr, if_neg hm, h0, h1', f2]
def absI (i : Int) : Int := if i < 0 then -i else i
def absD : D → D
  | .int i => .int (absI i)
  | d => d
def bag0 (ns : List Int) : Bg := ⟨0, 1234567891, 0, (ns.take 63).map absI⟩
theorem bag_e (ns : List Int) (hn : ns.length ≤ 63) : m_zbag [.val (scriptD ns)] = .ok (.own (bagD (bag0 ns))) [none] := by
  unfold m_zbag F_zbag
  have cut : cutD (ns.map PyData.int) none (some 63) = (ns.take 63).map .int := by
    unfold cutD
    rw [HT.sIx_none]
    have e : HT.sIx (ns.map PyData.int).length (ns.map PyData.int).length (some 63) = ns.length := by
      rw [show (some (63 : Int)) = some ((63 : Nat) : Int) from rfl, HT.sIx_nat, List.length_map]
      omega
    rw [e, List.take_of_length_le hn, List.drop_zero, Nat.sub_zero]
    exact List.take_of_length_le (by simp)
  have c := comp_map (i := 1) (I := iAny (fSlice (pkVar 0) ptNone (ptSome (fC (.int 63))))) (T := fYes) (E := fCall absF (lCons (pkVar 1) lNil)) (δ := [some (.val (scriptD ns)), none]) (δ1 := [some (.val (scriptD ns)), none]) (ds := (ns.take 63).map .int) (fun _ => true) absD
    (by
      unfold scriptD
      simp only [bind_ok, bind_err, bindS_ok, bindS_err, of_some, slot0, slotS, rdVar_e, rdC_val, rdC_own, cellD_val, cellD_own, cellD_ref, pkVar_e, pkC_some, opd_tmp, opd_var, lendC_own, lendC_ref, stor_n, stor_v, stor_o, stor_hit, eq_self, stor_next, map_some', soft_none, soft_val, soft_own, fC_e, fOf_e, ofK_e, op2_e, fBin_e, bin1_e, bin2_e, op1_e, fUn_e, un1_e, fNil_e, fCons_e, cons1_e, cons2_e, apCons_e, fTup_e, fLst_e, tup1_e, lst1_e, lNil_e, lCons_e, lc1_e, lc2_e, opL_nil, opL_cons, op2L_e, opN_e, fCall_e, call1_e, fIsi_e, isi1_e, fMeth_e, meth1_e, methT_s, methT_l, meth2_e, opM_e, fSlice_e, sl1_e, sl2_e, sl3_e, ptNone_e, ptSome_e, toPt_e, toB_e, fB_e, fChain_e, ch1_e, ch2_e, ch3_t, ch3_f, ch4_e, fAnd_e, fOr_e, fNot_e, and1_t, and1_f, or1_t, or1_f, not1_e, fAndV_e, fOrV_e, fNotV_e, andV1_t, andV1_f, orV1_t, orV1_f, notV1_e, fIf_e, if1_t, if1_f, fV_e, fVO_e, v1_e, vO1_e, cellRes_ok, toVal_v, toVal_o, toOwn_o, mapV0, mapV1, apHead_e, apH1_e, apH2_e, fR_e, r1_e, r2_0, r2_1, back1_0, back1_S, backC_own, backC_ref, cellResR_e, cR_ref, cR_none, sSeq_e, seq1_n, seq1_r, seq1_b, seq1_c, sNext_e, sDrop_e, drop1_e, sRet_e, sRetO_e, ret1_e, retO1_e, sRetN_e, sRetV_e, retC_v, retC_o, nextO_e, sSet_e, sSetO_e, set1_e, setO1_e, bName_e, bNil_e, bCons_e, bCons1_e, sAsg_e, asg1_e, storN_e, par1_e, sAugN_e, augN0_e, augN1_e, sIf_e, sif1_t, sif1_f, sFor_e, sfor1_e, iAny_e, anyI_l, anyI_t, anyI_s, iRng1_e, atI_0, atI_1, atI_2, atI_3, atI_4, atI_5, atI_6, atI_7, atI_8, atI_9, atI_10, atI_11, atI_12, atN_0, atN_S, lset_0, lset_S, mapc, putN_e, sItem_e, item1_e, item2_e, item3_e, item4_0, item4_1, item4_2, item4_3, item4_4, item4_5, item4_6, item4_7, item4_8, item4_9, sAugI_e, augIs_e, augIk_e, augI0_0, augI0_1, augI0_2, augI0_3, augI0_4, augI0_5, augI1_e, augI2_e, augI3_e, sApp_e, app0_e, app1_e, mir_e, runBody_e, fin_r, fin_n, outs_n, outs_v, outs_r, addF_i, subF_i, eqF_i, eqF_s, neF_i, neF_s, ltF_i, gtF_i, leF_i, geF_i, isF_n, isnF_n, itF_l, itF_t, lenF_l, lenF_t, absF_i, intF_i, intF_b, negF_i, revF_l, maxF_i, minF_i, listF_l, listF_t, sliceF_l, sliceF_t, List.length_map, List.set_cons_zero, List.set_cons_succ, Int.reducePow, Int.reduceNeg, Int.reduceLT, Int.reduceLE, Int.reduceMod, Int.reduceDiv, decide_true, decide_false, if_true, if_false, and_self, Nat.reduceAdd, Nat.reduceSub, Nat.reduceLeDiff, List.length_cons, List.length_nil, List.map_cons, List.map_nil, List.cons_append, List.nil_append, List.replicate, mulF_l, mulF_r, modF_i, divF_i, cut])
    (Nat.lt_succ_self 1) rfl (by simp; omega) (fun d hd => by
      obtain ⟨i, _, rfl⟩ := List.mem_map.mp hd
      refine ⟨rfl, fun _ => ?_⟩
      simp only [bind_ok, bind_err, bindS_ok, bindS_err, of_some, slot0, slotS, rdVar_e, rdC_val, rdC_own, cellD_val, cellD_own, cellD_ref, pkVar_e, pkC_some, opd_tmp, opd_var, lendC_own, lendC_ref, stor_n, stor_v, stor_o, stor_hit, eq_self, stor_next, map_some', soft_none, soft_val, soft_own, fC_e, fOf_e, ofK_e, op2_e, fBin_e, bin1_e, bin2_e, op1_e, fUn_e, un1_e, fNil_e, fCons_e, cons1_e, cons2_e, apCons_e, fTup_e, fLst_e, tup1_e, lst1_e, lNil_e, lCons_e, lc1_e, lc2_e, opL_nil, opL_cons, op2L_e, opN_e, fCall_e, call1_e, fIsi_e, isi1_e, fMeth_e, meth1_e, methT_s, methT_l, meth2_e, opM_e, fSlice_e, sl1_e, sl2_e, sl3_e, ptNone_e, ptSome_e, toPt_e, toB_e, fB_e, fChain_e, ch1_e, ch2_e, ch3_t, ch3_f, ch4_e, fAnd_e, fOr_e, fNot_e, and1_t, and1_f, or1_t, or1_f, not1_e, fAndV_e, fOrV_e, fNotV_e, andV1_t, andV1_f, orV1_t, orV1_f, notV1_e, fIf_e, if1_t, if1_f, fV_e, fVO_e, v1_e, vO1_e, cellRes_ok, toVal_v, toVal_o, toOwn_o, mapV0, mapV1, apHead_e, apH1_e, apH2_e, fR_e, r1_e, r2_0, r2_1, back1_0, back1_S, backC_own, backC_ref, cellResR_e, cR_ref, cR_none, sSeq_e, seq1_n, seq1_r, seq1_b, seq1_c, sNext_e, sDrop_e, drop1_e, sRet_e, sRetO_e, ret1_e, retO1_e, sRetN_e, sRetV_e, retC_v, retC_o, nextO_e, sSet_e, sSetO_e, set1_e, setO1_e, bName_e, bNil_e, bCons_e, bCons1_e, sAsg_e, asg1_e, storN_e, par1_e, sAugN_e, augN0_e, augN1_e, sIf_e, sif1_t, sif1_f, sFor_e, sfor1_e, iAny_e, anyI_l, anyI_t, anyI_s, iRng1_e, atI_0, atI_1, atI_2, atI_3, atI_4, atI_5, atI_6, atI_7, atI_8, atI_9, atI_10, atI_11, atI_12, atN_0, atN_S, lset_0, lset_S, mapc, putN_e, sItem_e, item1_e, item2_e, item3_e, item4_0, item4_1, item4_2, item4_3, item4_4, item4_5, item4_6, item4_7, item4_8, item4_9, sAugI_e, augIs_e, augIk_e, augI0_0, augI0_1, augI0_2, augI0_3, augI0_4, augI0_5, augI1_e, augI2_e, augI3_e, sApp_e, app0_e, app1_e, mir_e, runBody_e, fin_r, fin_n, outs_n, outs_v, outs_r, addF_i, subF_i, eqF_i, eqF_s, neF_i, neF_s, ltF_i, gtF_i, leF_i, geF_i, isF_n, isnF_n, itF_l, itF_t, lenF_l, lenF_t, absF_i, intF_i, intF_b, negF_i, revF_l, maxF_i, minF_i, listF_l, listF_t, sliceF_l, sliceF_t, List.length_map, List.set_cons_zero, List.set_cons_succ, Int.reducePow, Int.reduceNeg, Int.reduceLT, Int.reduceLE, Int.reduceMod, Int.reduceDiv, decide_true, decide_false, if_true, if_false, and_self, Nat.reduceAdd, Nat.reduceSub, Nat.reduceLeDiff, List.length_cons, List.length_nil, List.map_cons, List.map_nil, List.cons_append, List.nil_append, List.replicate, mulF_l, mulF_r, modF_i, divF_i, absD, absI])
  rw [mir_e (by rfl), runBody_e]
  show fin _ (sRetO _ [some (.val (scriptD ns)), none]) = _
  have e2 : (((ns.take 63).map PyData.int).filter fun _ => true).map absD = ((ns.take 63).map absI).map PyData.int := by
    rw [List.filter_eq_self.mpr (fun _ _ => rfl), List.map_map, List.map_map]
    rfl
  rw [e2] at c
  simp only [bind_ok, bind_err, bindS_ok, bindS_err, of_some, slot0, slotS, rdVar_e, rdC_val, rdC_own, cellD_val, cellD_own, cellD_ref, pkVar_e, pkC_some, opd_tmp, opd_var, lendC_own, lendC_ref, stor_n, stor_v, stor_o, stor_hit, eq_self, stor_next, map_some', soft_none, soft_val, soft_own, fC_e, fOf_e, ofK_e, op2_e, fBin_e, bin1_e, bin2_e, op1_e, fUn_e, un1_e, fNil_e, fCons_e, cons1_e, cons2_e, apCons_e, fTup_e, fLst_e, tup1_e, lst1_e, lNil_e, lCons_e, lc1_e, lc2_e, opL_nil, opL_cons, op2L_e, opN_e, fCall_e, call1_e, fIsi_e, isi1_e, fMeth_e, meth1_e, methT_s, methT_l, meth2_e, opM_e, fSlice_e, sl1_e, sl2_e, sl3_e, ptNone_e, ptSome_e, toPt_e, toB_e, fB_e, fChain_e, ch1_e, ch2_e, ch3_t, ch3_f, ch4_e, fAnd_e, fOr_e, fNot_e, and1_t, and1_f, or1_t, or1_f, not1_e, fAndV_e, fOrV_e, fNotV_e, andV1_t, andV1_f, orV1_t, orV1_f, notV1_e, fIf_e, if1_t, if1_f, fV_e, fVO_e, v1_e, vO1_e, cellRes_ok, toVal_v, toVal_o, toOwn_o, mapV0, mapV1, apHead_e, apH1_e, apH2_e, fR_e, r1_e, r2_0, r2_1, back1_0, back1_S, backC_own, backC_ref, cellResR_e, cR_ref, cR_none, sSeq_e, seq1_n, seq1_r, seq1_b, seq1_c, sNext_e, sDrop_e, drop1_e, sRet_e, sRetO_e, ret1_e, retO1_e, sRetN_e, sRetV_e, retC_v, retC_o, nextO_e, sSet_e, sSetO_e, set1_e, setO1_e, bName_e, bNil_e, bCons_e, bCons1_e, sAsg_e, asg1_e, storN_e, par1_e, sAugN_e, augN0_e, augN1_e, sIf_e, sif1_t, sif1_f, sFor_e, sfor1_e, iAny_e, anyI_l, anyI_t, anyI_s, iRng1_e, atI_0, atI_1, atI_2, atI_3, atI_4, atI_5, atI_6, atI_7, atI_8, atI_9, atI_10, atI_11, atI_12, atN_0, atN_S, lset_0, lset_S, mapc, putN_e, sItem_e, item1_e, item2_e, item3_e, item4_0, item4_1, item4_2, item4_3, item4_4, item4_5, item4_6, item4_7, item4_8, item4_9, sAugI_e, augIs_e, augIk_e, augI0_0, augI0_1, augI0_2, augI0_3, augI0_4, augI0_5, augI1_e, augI2_e, augI3_e, sApp_e, app0_e, app1_e, mir_e, runBody_e, fin_r, fin_n, outs_n, outs_v, outs_r, addF_i, subF_i, eqF_i, eqF_s, neF_i, neF_s, ltF_i, gtF_i, leF_i, geF_i, isF_n, isnF_n, itF_l, itF_t, lenF_l, lenF_t, absF_i, intF_i, intF_b, negF_i, revF_l, maxF_i, minF_i, listF_l, listF_t, sliceF_l, sliceF_t, List.length_map, List.set_cons_zero, List.set_cons_succ, Int.reducePow, Int.reduceNeg, Int.reduceLT, Int.reduceLE, Int.reduceMod, Int.reduceDiv, decide_true, decide_false, if_true, if_false, and_self, Nat.reduceAdd, Nat.reduceSub, Nat.reduceLeDiff, List.length_cons, List.length_nil, List.map_cons, List.map_nil, List.cons_append, List.nil_append, List.replicate, mulF_l, mulF_r, modF_i, divF_i, c]
  rfl
end Bag
end Dl

set_option Elab.async false
set_option linter.all false
set_option maxRecDepth 100000
set_option maxHeartbeats 400000
/-! Dl17: equality and repr of data; words. -/
namespace Dl
open PySem PySem.Spec PyProof.Rows L2 TL
/-! ### a datum equals itself -/
mutual
theorem eqv_refl : ∀ {d : D}, d.plain = true → PyData.eqv d d = true
  | .none, _ => by simp [PyData.eqv]
  | .bool b, _ => by simp [PyData.eqv]
  | .int b, _ => by simp [PyData.eqv]
  | .str b, _ => by simp [PyData.eqv]
  | .list ds, h => by
    simp only [PyData.eqv]
    exact eqvAll_refl (by simpa only [PyData.plain] using h)
  | .tuple ds, h => by
    simp only [PyData.eqv]
    exact eqvAll_refl (by simpa only [PyData.plain] using h)
  | .dict _, h => by simp [PyData.plain] at h
theorem eqvAll_refl : ∀ {ds : List D}, PyData.plainAll ds = true → PyData.eqvAll ds ds = true
  | [], _ => by simp [PyData.eqvAll]
  | d :: ds, h => by
    simp only [PyData.plainAll, Bool.and_eq_true] at h
    simp only [PyData.eqvAll, eqv_refl h.1, eqvAll_refl h.2, Bool.and_true]
end
/-! ### repr -/
mutual
/-- a datum that repr can tell -/
def good : D → Bool
  | .none | .bool _ => true
  | .int i => decide (i.natAbs.log2 < 1920)
  | .str x => x.cps.toList.all fun c => decide (c < 4294967296)
  | .list ds | .tuple ds => goodAll ds
  | .dict _ => false
def goodAll : List D → Bool
  | [] => true
  | d :: ds => good d && goodAll ds
end
mutual
/-- a bound of its length -/
def szB : D → Nat
  | .none | .bool _ => 5
  | .int _ => 2000
  | .str x => 10 * x.length + 2
  | .list ds | .tuple ds => szAll ds + 5
  | .dict _ => 0
def szAll : List D → Nat
  | [] => 0
  | d :: ds => szB d + 2 + szAll ds
end
mutual
theorem good_plain : ∀ {d : D}, good d = true → d.plain = true ∧ d.showable = true
  | .none, _ => by simp [PyData.plain, PyData.showable]
  | .bool _, _ => by simp [PyData.plain, PyData.showable]
  | .int i, h => by
    simp only [good] at h
    simp only [PyData.plain, PyData.showable]
    exact ⟨trivial, h⟩
  | .str _, _ => by simp [PyData.plain, PyData.showable]
  | .list ds, h => by
    simp only [good] at h
    simp only [PyData.plain, PyData.showable]
    exact goodAll_plain h
  | .tuple ds, h => by
    simp only [good] at h
    simp only [PyData.plain, PyData.showable]
    exact goodAll_plain h
  | .dict _, h => by simp [good] at h
theorem goodAll_plain : ∀ {ds : List D}, goodAll ds = true → PyData.plainAll ds = true ∧ PyData.showableAll ds = true
  | [], _ => by simp [PyData.plainAll, PyData.showableAll]
  | d :: ds, h => by
    simp only [goodAll, Bool.and_eq_true] at h
    obtain ⟨a, b⟩ := good_plain h.1
    obtain ⟨c, e⟩ := goodAll_plain h.2
    simp only [PyData.plainAll, PyData.showableAll, a, b, c, e, Bool.and_self, and_self]
end
theorem dig_len : ∀ (k fuel n : Nat) (ds : List Char), 1 ≤ k → n < 2 ^ k → (Nat.toDigitsCore 10 fuel n ds).length ≤ ds.length + k
  | _, 0, _, ds, _, _ => by simp [Nat.toDigitsCore]
  | k, fuel + 1, n, ds, hk, hn => by
    unfold Nat.toDigitsCore
    by_cases z : n / 10 = 0
    · simp only [z, if_true, List.length_cons]
      omega
    · simp only [z, if_false]
      have two : 2 ≤ k := by
        by_cases one : k = 1
        · subst one
          exact absurd (by omega : n / 10 = 0) z
        · omega
      have half : n / 10 < 2 ^ (k - 1) := by
        have e : 2 ^ k = 2 ^ (k - 1) * 2 := by
          rw [← Nat.pow_succ]
          congr 1
          omega
        omega
      have ih := dig_len (k - 1) fuel (n / 10) (Nat.digitChar (n % 10) :: ds) (by omega) half
      simp only [List.length_cons] at ih
      omega
theorem len_add (x y : Str) : (x ++ y).length = x.length + y.length := by rw [len_tl, tl_append, List.length_append, ← len_tl, ← len_tl]
theorem from_len : ∀ (ts : List Str) (k : Nat) (acc : Str), (textFrom k acc ts).length ≤ acc.length + (ts.map fun t => t.length + 2).sum
  | [], k, acc => by simp [textFrom]
  | t :: r, k, acc => by
    unfold textFrom
    have ih := from_len r (k + 1) (acc ++ (if k > 0 then ", " else "" : String) ++ t)
    rw [len_add, len_add] at ih
    have e : (Str.ofString (if k > 0 then ", " else "" : String)).length ≤ 2 := by split <;> decide
    simp only [List.map_cons, List.sum_cons]
    omega
theorem joinLen : ∀ ts : List Str, (Str.join ", " ts).length ≤ (ts.map fun t => t.length + 2).sum
  | [] => by simp [Str.join]; decide
  | [x] => by simp [Str.join]
  | x :: y :: r => by
    have ih := joinLen (y :: r)
    show (x ++ (", " : Str) ++ Str.join ", " (y :: r)).length ≤ _
    rw [len_add, len_add, List.map_cons, List.sum_cons]
    have e : (Str.ofString ", ").length = 2 := rfl
    omega
theorem eqF_self {d : D} (g : d.plain = true) (h : d.depth ≤ 60) : eqF d d = some (.bool true) := by
  unfold eqF okEq
  rw [eqv_refl g, g]
  simp [h]
/-! ### words -/
/-- a word of letters -/
def IsW (n : Nat) (w : Str) : Prop := 1 ≤ w.length ∧ w.length ≤ n ∧ ∀ c ∈ tl w, 97 ≤ c ∧ c ≤ 122
instance (n : Nat) (w : Str) : Decidable (IsW n w) := by unfold IsW; infer_instance
theorem IsW.good {n : Nat} {w : Str} (h : IsW n w) : good (.str w) = true := by
  simp only [Dl.good, List.all_eq_true, decide_eq_true_eq]
  intro c hc
  have := h.2.2 c hc
  omega
theorem joinL_nil : ∀ l : List (List Nat), joinL [] l = l.flatten
  | [] => rfl
  | [p] => by simp [joinL]
  | p :: q :: r => by
    have ih := joinL_nil (q :: r)
    simp only [joinL, List.nil_append, ih, List.flatten_cons]
theorem join0 (ws : List Str) : tl (Txt.join "" ws) = (ws.map tl).flatten := by
  rw [join_eq, tl_join]
  exact joinL_nil _
/-- letters, one by one -/
def IsL (c : Str) : Prop := ∃ k, c = ⟨#[k]⟩ ∧ 97 ≤ k ∧ k ≤ 122
theorem join_letters : ∀ {ws : List Str}, (∀ w ∈ ws, IsL w) → (tl (Txt.join "" ws)).length = ws.length ∧ ∀ c ∈ tl (Txt.join "" ws), 97 ≤ c ∧ c ≤ 122 := by
  intro ws h
  rw [join0]
  induction ws with
  | nil => exact ⟨rfl, fun _ h => by cases h⟩
  | cons w ws ih =>
    obtain ⟨h1, h2⟩ := ih fun x m => h x (List.mem_cons_of_mem _ m)
    obtain ⟨k, rfl, k1, k2⟩ := h w List.mem_cons_self
    simp only [List.map_cons, List.flatten_cons, List.length_append, List.length_cons]
    refine ⟨by rw [h1]; show 1 + _ = _; omega, fun c hc => ?_⟩
    rcases List.mem_append.mp hc with hc | hc
    · have : c = k := by simpa [tl] using hc
      omega
    · exact h2 c hc
theorem strsOf_map : ∀ ws : List Str, strsOf (ws.map .str) = some ws
  | [] => rfl
  | w :: ws => by
    show (strsOf (ws.map .str)).map (w :: ·) = _
    rw [strsOf_map ws]
    rfl
theorem getD_mem {α : Type} {l : List α} {i : Nat} {d : α} (h : i < l.length) : l.getD i d ∈ l := by
  rw [List.getD_eq_getElem?_getD, List.getElem?_eq_getElem h]
  exact List.getElem_mem h
end Dl

set_option Elab.async false
set_option linter.all false
set_option maxRecDepth 100000
/-! Dl18: more built-ins over data. -/
namespace Dl
open PySem PySem.Spec PyProof.Rows L2
variable [Reg] [TabC]
section
variable {X : Cx} {W : WX} {Mi : Msk} {σ : St} {H H1 : Hp} {δ δ1 : DEnv} {Fv : Fe D} {pos : Pos} {e : Expr}

/-! ### built-ins with keywords -/
theorem PK.imp {ks : List Keyword} {t t' : TA} (h : PK X ks t) (i : ∀ σ H Q, t' σ H Q → t σ H Q) : PK X ks t' := ⟨fun pos pins s σ H Q I q => h.run pos pins s σ H Q I (i _ _ _ q)⟩
def lOne (F : Fe Opd) : Fe (List Opd) := fun δ => (F δ).bind fun d δ1 => .ok [d] δ1
def fCallK (f : List D → List D → Option D) (F G : Fe (List Opd)) : Fe D := fun δ => (F δ).bind fun os δ1 => (G δ1).bind fun ks δ2 => R.of ((opds δ2 os).bind fun ds => (opds δ2 ks).bind fun es => f ds es) δ2
/-! ### max and min of a list -/
def alikeB (ds : List D) : Bool := (ds.all fun x => ds.all fun y => PySem.W.alike x y) && ds.all fun x => !isNoneD x
theorem alikeB_un {ds : List D} (h : alikeB ds = true) : PySem.W.AlikeAll ds := by
  unfold alikeB at h
  simp only [Bool.and_eq_true, List.all_eq_true, Bool.not_eq_true'] at h
  exact ⟨fun x hx y hy => h.1 x hx y hy, fun x hx z => by
    have := h.2 x hx
    rw [z] at this
    cases this⟩
def okSeq (ds : List D) : Bool := PyData.plainAll ds && alikeB ds && decide (PyData.depthAll ds ≤ 60)
theorem okSeq_un {ds : List D} (h : okSeq ds = true) : PyData.plainAll ds = true ∧ PySem.W.AlikeAll ds ∧ PyData.depthAll ds ≤ 60 := by
  unfold okSeq at h
  simp only [Bool.and_eq_true, decide_eq_true_eq] at h
  exact ⟨h.1.1, alikeB_un h.1.2, h.2⟩
def maxL : List D → Option D
  | [.list (y :: ys)] => if okSeq (y :: ys) = true then some (PySem.W.maxD y ys) else none
  | _ => none
def minL : List D → Option D
  | [.list (y :: ys)] => if okSeq (y :: ys) = true then some (PySem.W.minD y ys) else none
  | _ => none
/-- a datum that is no container -/
def atomD : D → Bool
  | .none | .bool _ | .int _ | .str _ => true
  | _ => false
theorem vals_at : ∀ {xs : List V} {us : List Value} {i : Nat} {u : Value}, Vals xs us → us[i]? = some u → ∃ x, xs[i]? = some x ∧ RelV x u
  | _, _, _, _, .nil, h => by simp at h
  | _, _, 0, _, .cons r _, h => by
    simp at h
    subst h
    exact ⟨_, rfl, r⟩
  | _, _, i + 1, _, .cons _ rs, h => by
    obtain ⟨x, e, r⟩ := vals_at rs (by simpa using h)
    exact ⟨x, by simpa using e, r⟩
/-- a list of data in the heap -/
theorem list_at {M : Msk} {pins : List (Addr × Obj)} {s : Shared} {ds : List D} {v : V} {u : Value} (I : Inv X pins σ H s) (hp : PyData.plainAll ds = true) (h : Pk X.K M H (.list ds) v) (r : RelV v u) :
    ∃ (a : Addr) (xs : List V) (its : List Value) (as : List Addr), u = .ref a ∧ s.heap.IsList a its.toArray ∧ Vals xs its ∧ DatAll X.K M H ds xs ∧ ReadsAll s.heap its ds as ∧ its.length = ds.length ∧ its.length ≤ sizeLine := by
  obtain ⟨a, xs, rfl, l, rr⟩ := h.list
  cases r
  obtain ⟨z, its, n, rv, hl, e⟩ := rd_list I l
  obtain ⟨as, ra⟩ := Dp.readsAll I ds xs its (rr.dp hp) rv
  refine ⟨a, xs, its, as, rfl, ⟨_, e, rfl, n, rfl⟩, rv, rr, ra, ?_, ?_⟩
  · rw [← hl, rr.length]
  · rw [← hl]
    exact z
/-- what was found among the items is an item's datum -/
theorem item_of {M : Msk} {pins : List (Addr × Obj)} {s : Shared} {h' : Heap} {tk : Nat} {ds : List D} {xs : List V} {its : List Value} {i : Nat} {u : Value} {d : D} {bs : List Addr} (I : Inv X pins σ H s) (hp : PyData.plainAll ds = true) (rv : Vals xs its) (rr : DatAll X.K M H ds xs) (e : its[i]? = some u)
    (k : ∀ b o, s.heap.get? b = some o → h'.get? b = some o) (rd : Reads h' u d bs) : ∃ x, RelV x u ∧ Dat X.K M H d x := by
  obtain ⟨x, ex, rx⟩ := vals_at rv e
  obtain ⟨d', ed, dx⟩ := rr.get' ex
  have pd : d'.plain = true := by
    have mem : d' ∈ ds := List.mem_of_getElem? ed
    clear rr ed
    induction ds with
    | nil => cases mem
    | cons y ys ih =>
      simp only [PyData.plainAll, Bool.and_eq_true] at hp
      rcases List.mem_cons.mp mem with z | z
      · rw [z]
        exact hp.1
      · exact ih hp.2 z
  obtain ⟨as, r1⟩ := Pk.reads I pd (.inl dx) rx
  have r2 := PyProof.Rows.Reads.keeps k r1
  obtain ⟨z, _⟩ := PyProof.Rows.reads_det (fun _ _ e _ => e) r2 rd
  rw [z]
  exact ⟨x, rx, dx⟩
theorem call_maxLD (ok : X.A.units + 64 < cLine) (hc : X.calm = true) : CallR X (.builtin "max") (rC X.K maxL) := by
  intro pins s σ H xs us Q I r z
  obtain ⟨M, ds, d, hm, ps, e, q⟩ := z
  unfold maxL at e
  split at e
  · rename_i y ys
    obtain ⟨hk, e⟩ := some_if e
    obtain ⟨hp, ha, hd⟩ := okSeq_un hk
    obtain ⟨v, rfl, pv⟩ := PkAll.one (ds := []) (v := .non) ps
    cases r with
    | cons r1 r0 =>
      cases r0
      obtain ⟨a, zs, its, as, rfl, il, rv, rr, ra, _, _⟩ := list_at I hp pv r1
      refine PySem.W.max_list_data (I.ok.hd hc) il (by simpa using ra) ha (by omega) fun i u h' tk bs hu rd k => ?_
      obtain ⟨x, rx, dx⟩ := item_of (tk := tk) I hp rv rr (by simpa using hu) k rd
      rw [e] at dx
      exact ⟨x, H, I.kept k, rx, q x H Al.refl dx⟩
  · cases e
theorem call_minLD (ok : X.A.units + 64 < cLine) (hc : X.calm = true) : CallR X (.builtin "min") (rC X.K minL) := by
  intro pins s σ H xs us Q I r z
  obtain ⟨M, ds, d, hm, ps, e, q⟩ := z
  unfold minL at e
  split at e
  · rename_i y ys
    obtain ⟨hk, e⟩ := some_if e
    obtain ⟨hp, ha, hd⟩ := okSeq_un hk
    obtain ⟨v, rfl, pv⟩ := PkAll.one (ds := []) (v := .non) ps
    cases r with
    | cons r1 r0 =>
      cases r0
      obtain ⟨a, zs, its, as, rfl, il, rv, rr, ra, _, _⟩ := list_at I hp pv r1
      refine PySem.W.min_list_data (I.ok.hd hc) il (by simpa using ra) ha (by omega) fun i u h' tk bs hu rd k => ?_
      obtain ⟨x, rx, dx⟩ := item_of (tk := tk) I hp rv rr (by simpa using hu) k rd
      rw [e] at dx
      exact ⟨x, H, I.kept k, rx, q x H Al.refl dx⟩
  · cases e
end
end Dl

set_option Elab.async false
set_option linter.all false
set_option maxRecDepth 100000
/-! Dl19: max and min with default, sorted, index, pop. -/
namespace Dl
open PySem PySem.Spec PyProof.Rows L2
section
variable {X : Cx} {W : WX} {Mi : Msk} {σ : St} {H H1 : Hp} {δ δ1 : DEnv} {Fv : Fe D} {pos : Pos} {e : Expr}
/-! ### sorted -/
def sortD (ds : List D) : List D := ds.mergeSort (PySem.W.dataLe false fun d => d)
def tup1p : D → Bool
  | .tuple (_ :: _) => true
  | _ => false
def noTup : D → Bool
  | .none | .tuple _ => false
  | _ => true
def okSort (ds : List D) : Bool := PyData.plainAll ds && (ds.all fun x => ds.all fun y => PySem.W.alike x y) && (ds.all tup1p || ds.all noTup) && decide (PyData.depthAll ds ≤ 60)
theorem okSort_un {ds : List D} (h : okSort ds = true) : PyData.plainAll ds = true ∧ PySem.W.AllAlike ds ∧ PySem.W.Sortable ds ∧ PyData.depthAll ds ≤ 60 := by
  unfold okSort at h
  simp only [Bool.and_eq_true, decide_eq_true_eq, Bool.or_eq_true, List.all_eq_true] at h
  refine ⟨h.1.1.1, fun d hd d' hd' => h.1.1.2 d hd d' hd', ?_, h.2⟩
  rcases h.1.2 with z | z
  · refine .inl fun d hd => ?_
    have := z d hd
    cases d with
    | tuple xs => cases xs with
      | nil => cases this
      | cons x r => exact ⟨x, r, rfl⟩
    | _ => cases this
  · refine .inr fun d hd => ?_
    have := z d hd
    cases d with
    | none => cases this
    | tuple _ => cases this
    | _ => exact ⟨by simp, by simp⟩
theorem depth_mem : ∀ {ds : List D} {d : D}, d ∈ ds → d.depth ≤ PyData.depthAll ds
  | [], _, h => by cases h
  | x :: xs, d, h => by
    simp only [PyData.depthAll]
    rcases List.mem_cons.mp h with z | z
    · rw [z]
      exact Nat.le_max_left _ _
    · exact Nat.le_trans (depth_mem z) (Nat.le_max_right _ _)
theorem eachs {M : Msk} {K : PySem.W.Frag} {h : Heap} : ∀ {xs : List V} {its : List Value} {ds : List D} {as : List Addr}, Vals xs its → DatAll K M H ds xs → ReadsAll h its ds as →
    PySem.W.EachIs (fun (v : Value) (b : V × D) => RelV b.1 v ∧ Dat K M H b.2 b.1) its (xs.zip ds) ∧ PySem.W.EachIs (fun (v : Value) (b : V × D) => ∃ as, Reads h v b.2 as) its (xs.zip ds) ∧ (xs.zip ds).map Prod.snd = ds
  | [], _, _, _, .nil, r, rd => by
    cases rd
    exact ⟨.nil, .nil, rfl⟩
  | x :: xs, _, _, _, .cons rx rxs, r, rd => by
    cases rd with
    | cons r1 r2 =>
      obtain ⟨v, t, ev, h1, h2⟩ := r.cons_inv
      cases ev
      obtain ⟨a, b, c⟩ := eachs rxs h2 r2
      exact ⟨.cons ⟨rx, h1⟩ a, .cons ⟨_, r1⟩ b, by rw [List.zip_cons_cons, List.map_cons, c]⟩
theorem outs_of {M : Msk} {K : PySem.W.Frag} : ∀ {out : List Value} {bs : List (V × D)}, PySem.W.EachIs (fun (v : Value) (b : V × D) => RelV b.1 v ∧ Dat K M H b.2 b.1) out bs → Vals (bs.map Prod.fst) out ∧ DatAll K M H (bs.map Prod.snd) (bs.map Prod.fst)
  | [], _, h => by
    cases h
    exact ⟨.nil, .nil⟩
  | _ :: _, _, h => by
    cases h with
    | cons h1 h2 =>
      obtain ⟨a, b⟩ := outs_of h2
      exact ⟨.cons h1.1 a, .cons h1.2 b⟩
def rSortN (K : PySem.W.Frag) : List V → Hp → VK → Prop := fun xs H Q => ∃ (M : Msk) (ds : List D), PkAll K M H [.list ds] xs ∧ okSort ds = true ∧ ∀ p zs, H p = none → DatAll K M H (sortD ds) zs → Q (.ref p) (upd H p (.lst zs))
theorem call_sortN (ok : X.A.units + 64 < cLine) : CallR X (.builtin "sorted") (rSortN X.K) := by
  intro pins s σ H xs us Q I r z
  obtain ⟨M, ds, ps, hk, q⟩ := z
  obtain ⟨hp, ha, hs, hd⟩ := okSort_un hk
  obtain ⟨v, rfl, pv⟩ := PkAll.one (ds := []) (v := .non) ps
  cases r with
  | cons r1 r0 =>
    cases r0
    obtain ⟨a, ys, its, as, rfl, il, rv, rr, ra, hl, hz⟩ := list_at I hp pv r1
    obtain ⟨e1, e2, e3⟩ := eachs rv rr ra
    have bl : (ys.zip ds).length = its.length := e1.length.symm
    refine PySem.W.sorted_data (enc := Prod.snd) il e1 e2 (by rw [e3]; exact ha) (by rw [e3]; exact hs) (by rw [bl]; exact hz) (fun b hb => ?_) fun out ho eo => ?_
    · have mem : b.2 ∈ ds := by
        rw [← e3]
        exact List.mem_map_of_mem hb
      have := depth_mem mem
      omega
    · obtain ⟨f1, f2⟩ := outs_of eo
      have em : ((ys.zip ds).mergeSort (PySem.W.dataLe false Prod.snd)).map Prod.snd = sortD ds := by
        unfold sortD
        have t := List.map_mergeSort (r := PySem.W.dataLe false Prod.snd) (s := PySem.W.dataLe false fun d => d) (f := Prod.snd) (l := ys.zip ds) (fun a _ b _ => rfl)
        rw [t, e3]
      rw [em] at f2
      obtain ⟨ep, he'⟩ := PyProof.Rows.sortedAll_at s.heap its out.toArray
      have len : (((ys.zip ds).mergeSort (PySem.W.dataLe false Prod.snd)).map Prod.fst).length ≤ sizeLine := by
        rw [List.length_map, List.length_mergeSort, bl]
        exact hz
      exact ⟨.ref _, upd H (s.heap.objs.size + 1) (.lst (((ys.zip ds).mergeSort (PySem.W.dataLe false Prod.snd)).map Prod.fst)), I.laid (t' := s.toks) (fun _ _ => PyProof.Rows.sortedAll_old) (Nat.le_succ _) ⟨len, out, ep, f1, he'⟩, rfl, q _ _ (I.hok.fresh (Nat.le_succ _)) f2⟩
end
end Dl

set_option Elab.async false
set_option linter.all false
set_option maxRecDepth 100000
/-! Dl20: sorted as a new list; index; pop. -/
namespace Dl
open PySem PySem.Spec PyProof.Rows L2
variable [Reg] [TabC]
section
variable {X : Cx} {W : WX} {Mi : Msk} {σ : St} {H H1 : Hp} {δ δ1 : DEnv} {Fv : Fe D} {pos : Pos} {e : Expr}
def sortF : List D → Option D
  | [.list ds] => if okSort ds = true then some (.list (sortD ds)) else none
  | _ => none
/-- sorted(x) as a new list of one's own -/
theorem do_sorted {x : Str} {p : Pos} {F : Fe Opd} (ok : X.A.units + 64 < cLine) (hg : Gl X x) (hm : X.mg x = none) (hv : bootBuiltins x = some (.builtin "sorted")) (ha : DP X W e F) (hn : x ≠ "__name__" := by decide +kernel) (hdb : (x == ("__debug__" : Str)) = false := by decide +kernel)
    (he : starEach [e] X.env = (false, eval e X.env) :: starEach [] X.env := by rfl) (hpl : (backTo pos (starEach [] X.env)).any (·.1) = false := by rfl) : DO X W (.Call (.Name x p) [e] [] pos) (fCall sortF (lCons F lNil)) := by
  refine PE.imp (pe_callB (call_sortN ok) hg hm hv (dl_cons ha dl_nil he) hn hdb he hpl) fun σ H Q q => ?_
  obtain ⟨Mi, δ, R, q⟩ := tN_bind (P := pL X) q
  refine ⟨Mi, δ, R, q.imp fun xs H1 z => ?_⟩
  obtain ⟨Mi, os, δ1, R1, p, r⟩ := z
  cases eo : opds δ1 os with
  | none =>
    rw [eo] at r
    exact False.elim r
  | some ds =>
    rw [eo] at r
    have r2 : RunN X W Mi σ H1 δ1 (Dl.R.of (sortF ds) δ1) Q := r
    have pk := opds_pk R1 p eo
    unfold sortF at r2
    split at r2
    · rename_i ds
      split at r2
      · rename_i hk
        exact ⟨msk Mi σ δ1, ds, pk, hk, fun l zs n dz => RunN.lst (δ' := δ1) R1 r2 dz l n⟩
      · exact False.elim r2
    · exact False.elim r2
end
end Dl

set_option Elab.async false
set_option linter.all false
set_option maxRecDepth 100000
/-! Dl21: an own container lent to a part of its own frame; walks over a slot in place. -/
namespace Dl
open PySem PySem.Spec PyProof.Rows L2
variable [Reg] [TabC]
section
variable {K : PySem.W.Frag} {Mi Mo : Msk} {σ σ' : St} {H H' : Hp} {δ δ' : DEnv} {a : Addr} {d : D} {i : Nat}
theorem pin_get {j : Nat} {c : Cell} (q : (δ.set i (some (Cell.ref d)))[j]? = some (some c)) : (j = i ∧ c = .ref d) ∨ (j ≠ i ∧ δ[j]? = some (some c)) := by
  rcases get_set_some q with ⟨e, z, _⟩ | z
  · cases z
    exact .inl ⟨e, rfl⟩
  · exact .inr z
theorem pin_own (R : Rep K Mi σ H δ) (e : δ[i]? = some (some (.own d))) (s : σ[i]? = some (some (.ref a))) (b : Addr) : Owned σ δ b ↔ Owned σ (δ.set i (some (.ref d))) b ∨ b = a := by
  constructor
  · rintro ⟨j, d', e1, e2⟩
    by_cases h : j = i
    · subst h
      rw [s] at e2
      cases e2
      exact .inr rfl
    · exact .inl ⟨j, d', by rw [List.getElem?_set_ne (Ne.symm h)]; exact e1, e2⟩
  · rintro (⟨j, d', e1, e2⟩ | rfl)
    · rcases pin_get e1 with ⟨_, z⟩ | ⟨_, z⟩
      · cases z
      · exact ⟨j, d', z, e2⟩
    · exact ⟨i, d, e, s⟩
/-- .. and given back -/
theorem Go.unpin (R : Rep K Mi σ H δ) (e : δ[i]? = some (some (.own d))) (s : σ[i]? = some (some (.ref a))) (na : ¬ Mo a) (g : Go K (plus Mi a) (plus Mo a) σ H (δ.set i (some (.ref d))) σ' H' δ') :
    ∃ d', δ'[i]? = some (some (.ref d')) ∧ Go K Mi Mo σ H δ σ' H' (δ'.set i (some (.own d'))) ∧ msk Mo σ' (δ'.set i (some (.own d'))) = msk (plus Mo a) σ' δ' := by
  have li : i < δ.length := (List.getElem?_eq_some_iff.mp e).1
  obtain ⟨se, d', e'⟩ := g.lent i ⟨d, by rw [List.getElem?_set_self li]⟩
  rw [s] at se
  have li' : i < δ'.length := (List.getElem?_eq_some_iff.mp e').1
  have get : ∀ {j : Nat} {c : Cell}, (δ'.set i (some (Cell.own d')))[j]? = some (some c) → (j = i ∧ c = .own d') ∨ (j ≠ i ∧ δ'[j]? = some (some c)) := fun {j c} q => by
    rcases get_set_some q with ⟨e1, z, _⟩ | z
    · cases z
      exact .inl ⟨e1, rfl⟩
    · exact .inr z
  have own2 : ∀ b, Owned σ' (δ'.set i (some (.own d'))) b ↔ Owned σ' δ' b ∨ b = a := fun b => by
    constructor
    · rintro ⟨j, x, e1, e2⟩
      rcases get e1 with ⟨rfl, _⟩ | ⟨_, z⟩
      · rw [se] at e2
        cases e2
        exact .inr rfl
      · exact .inl ⟨j, x, z, e2⟩
    · rintro (⟨j, x, e1, e2⟩ | z)
      · have ne : j ≠ i := fun z => by
          subst z
          rw [e'] at e1
          cases e1
        exact ⟨j, x, by rw [List.getElem?_set_ne (Ne.symm ne)]; exact e1, e2⟩
      · exact ⟨i, d', by rw [List.getElem?_set_self li'], by rw [z]; exact se⟩
  have hm : msk Mo σ' (δ'.set i (some (.own d'))) = msk (plus Mo a) σ' δ' := by
    funext b
    refine propext ⟨fun z => ?_, fun z => ?_⟩
    · rcases z with z | z
      · exact .inl (.inl z)
      · rcases (own2 b).mp z with z | z
        · exact .inr z
        · exact .inl (.inr z)
    · rcases z with (z | z) | z
      · exact .inl z
      · exact .inr ((own2 b).mpr (.inr z))
      · exact .inr ((own2 b).mpr (.inl z))
  refine ⟨d', e', ⟨⟨by rw [List.length_set]; exact g.rep.len, fun j c q => ?_, fun j k c c' b ne q1 q2 m1 m2 s1 s2 => ?_, fun b z => g.rep.dom b (.inl z), fun p hp => ⟨(g.rep.pin p hp).1, by
    have ne : i ≠ p.1 := fun z => by
      have h1 := (R.pin p hp).2
      rw [← z, e] at h1
      cases h1
    rw [List.getElem?_set_ne ne]
    exact (g.rep.pin p hp).2⟩, g.rep.tab⟩, fun b o n1 n2 h nt => ?_, fun b z => ?_, fun j z => ?_, fun j z => ?_, g.trk⟩, hm⟩
  · rw [hm]
    rcases get q with ⟨rfl, rfl⟩ | ⟨ne, z⟩
    · obtain ⟨v, ev, b, rfl, _, c2⟩ := g.rep.cell j _ e'
      rw [se] at ev
      cases ev
      exact ⟨_, se, a, rfl, na, c2⟩
    · obtain ⟨u, eu, r⟩ := g.rep.cell j c z
      refine ⟨u, eu, ?_⟩
      cases c with
      | val x => exact r
      | exc _ _ _ => exact r
      | own x =>
        obtain ⟨b, rfl, n2, c2⟩ := r
        exact ⟨b, rfl, fun w => n2 (.inl w), c2⟩
      | ref x =>
        obtain ⟨b, rfl, n2, c2⟩ := r
        refine ⟨b, rfl, ?_, c2⟩
        rcases n2 with w | w
        · exact w
        · subst w
          exact (g.rep.sep j i _ _ b ne z e' rfl rfl eu se).elim
  · have chg : ∀ {j : Nat} {c : Cell}, (δ'.set i (some (Cell.own d')))[j]? = some (some c) → ∃ c2 : Cell, δ'[j]? = some (some c2) ∧ (c.isMut = true → c2.isMut = true) := fun {j c} q => by
      rcases get q with ⟨rfl, rfl⟩ | ⟨_, z⟩
      · exact ⟨_, e', fun _ => rfl⟩
      · exact ⟨c, z, id⟩
    obtain ⟨x1, f1, g1⟩ := chg q1
    obtain ⟨x2, f2, g2⟩ := chg q2
    exact g.rep.sep j k x1 x2 b ne f1 f2 (g1 m1) (g2 m2) s1 s2
  · refine g.stab b o (fun z => n1 ((pin_own R e s b).mpr (.inl z))) (fun z => ?_) h nt
    obtain ⟨j, x, e1, e2⟩ := z
    rcases pin_get e1 with ⟨rfl, _⟩ | ⟨_, z⟩
    · rw [s] at e2
      cases e2
      exact n1 ⟨j, d, e, s⟩
    · exact n2 ⟨j, x, z, e2⟩
  · rcases (own2 b).mp z with z | z
    · rcases g.own b z with z | z
      · exact .inl ((pin_own R e s b).mpr (.inl z))
      · exact .inr z
    · exact .inl ((pin_own R e s b).mpr (.inr z))
  · obtain ⟨x, z⟩ := z
    have ne : j ≠ i := fun w => by
      subst w
      rw [e] at z
      cases z
    obtain ⟨h1, x2, h2⟩ := g.lent j ⟨x, by rw [List.getElem?_set_ne (Ne.symm ne)]; exact z⟩
    exact ⟨h1, x2, by rw [List.getElem?_set_ne (Ne.symm ne)]; exact h2⟩
  · obtain ⟨x, z⟩ := z
    rcases get z with ⟨_, w⟩ | ⟨ne, w⟩
    · cases w
    · obtain ⟨x2, h2⟩ := g.lentB j ⟨x, w⟩
      rcases pin_get h2 with ⟨w2, _⟩ | ⟨_, w2⟩
      · exact absurd w2 ne
      · exact ⟨x2, w2⟩
end
end Dl

set_option Elab.async false
set_option linter.all false
set_option maxRecDepth 100000
/-! Dl22: for x in v, v a slot: a list of one's own, or a lent one, is walked where it stands. -/
namespace Dl
open PySem PySem.Spec PyProof.Rows L2
variable [Reg] [TabC]
section
variable {X : Cx} {W : WX} {Mi : Msk} {σ : St} {H H1 : Hp} {δ δ1 : DEnv} {Fv : Fe D} {pos : Pos} {e : Expr} {body : List Stmt} {F : Fs}
/-- item by item, where it stands -/
def sForR (v : Nat) (B : Bd) (F : Fs) : Nat → Nat → Fs
  | 0, _, _ => .bad
  | n + 1, i, δ => match δ[v]? with
    | some (some (.ref (.list ds))) => (match ds[i]? with
      | some d => (match B d δ with
        | none => .bad
        | some δ1 => match F δ1 with
          | .next δ2 => sForR v B F n (i + 1) δ2
          | .cont δ2 => sForR v B F n (i + 1) δ2
          | .brk δ2 => .next δ2
          | r => r)
      | none => .next δ)
    | _ => .bad
def unpin (v : Nat) (δ : DEnv) : DEnv :=
  match δ[v]? with
  | some (some (.ref d)) => δ.set v (some (.own d))
  | _ => δ
def RS.map (f : DEnv → DEnv) : RS → RS
  | .next δ => .next (f δ)
  | .ret c δ => .ret c (f δ)
  | .brk δ => .brk (f δ)
  | .cont δ => .cont (f δ)
  | .err x δ => .err x (f δ)
  | .bad => .bad
def sForV (v : Nat) (B : Bd) (F : Fs) : Fs := fun δ =>
  match δ[v]? with
  | some (some (.ref _)) => sForR v B F 1000000 0 δ
  | some (some (.own (.list ds))) => (sForR v B F 1000000 0 (δ.set v (some (.ref (.list ds))))).map (unpin v)
  | _ => sFor (iAny (rdVar v)) B F δ
/-- a run with the slot lent -/
theorem RunS.pin {r : RS} {E : Ends} {v : Nat} {a : Addr} {d : D} (R : Rep X.K Mi σ H δ) (e : δ[v]? = some (some (.own d))) (s : σ[v]? = some (some (.ref a))) (h : RunS X W Mi σ H δ (r.map (unpin v)) E) : RunS X W (plus Mi a) σ H (δ.set v (some (.ref d))) r E := by
  have na : ¬ Mi a := by
    obtain ⟨u, eu, b, rfl, nb, _⟩ := R.cell v _ e
    rw [s] at eu
    cases eu
    exact nb
  have un : ∀ {δ' d'}, δ'[v]? = some (some (Cell.ref d')) → unpin v δ' = δ'.set v (some (.own d')) := fun {δ' d'} z => by
    unfold unpin
    rw [z]
  cases r with
  | next δ' =>
    intro σ' H' g
    obtain ⟨d', e', g', _⟩ := Go.unpin R e s na g
    exact h σ' H' (by rw [un e']; exact g')
  | brk δ' =>
    intro σ' H' g
    obtain ⟨d', e', g', _⟩ := Go.unpin R e s na g
    exact h σ' H' (by rw [un e']; exact g')
  | cont δ' =>
    intro σ' H' g
    obtain ⟨d', e', g', _⟩ := Go.unpin R e s na g
    exact h σ' H' (by rw [un e']; exact g')
  | err x δ' =>
    intro cls dd σ' H' hc g hx
    obtain ⟨d', e', g', hm⟩ := Go.unpin R e s na g
    exact h cls dd σ' H' hc (by rw [un e']; exact g') (by rw [un e', hm]; exact hx)
  | bad => exact h
  | ret c δ' =>
    cases c with
    | val x =>
      intro u σ' H' g hx
      obtain ⟨d', e', g', hm⟩ := Go.unpin R e s na g
      exact h u σ' H' (by rw [un e']; exact g') (by rw [un e', hm]; exact hx)
    | own x =>
      intro b σ' H' g hb hx
      have ne : b ≠ a := fun z => by
        subst z
        rcases hb with ⟨j, y, e1, e2⟩ | z
        · rcases pin_get e1 with ⟨_, w⟩ | ⟨n, w⟩
          · cases w
          · exact R.sep j v _ _ b n w e rfl rfl e2 s
        · obtain ⟨u, eu, b2, rfl, _, ct⟩ := R.cell v _ e
          rw [s] at eu
          cases eu
          obtain ⟨o, eo⟩ := ct.some
          rw [z] at eo
          cases eo
      have pp : plus (plus Mi a) b = plus (plus Mi b) a := by
        funext c
        refine propext ⟨fun z => ?_, fun z => ?_⟩
        · rcases z with (z | z) | z
          · exact .inl (.inl z)
          · exact .inr z
          · exact .inl (.inr z)
        · rcases z with (z | z) | z
          · exact .inl (.inl z)
          · exact .inr z
          · exact .inl (.inr z)
      rw [pp] at g hx
      obtain ⟨d', e', g', hm⟩ := Go.unpin (Mo := plus Mi b) R e s (fun z => z.elim na fun w => ne w.symm) g
      refine h b σ' H' (by rw [un e']; exact g') ?_ (by rw [un e', hm]; exact hx)
      rcases hb with z | z
      · exact .inl ((pin_own R e s b).mpr (.inl z))
      · exact .inr z
    | ref _ => exact h
    | exc _ _ _ => exact h
theorem var_rd {v : Nat} {Q : VK} (q : tG X W (pD X) (rdVar v) σ H Q) : tVar v σ H Q := by
  obtain ⟨Mi, δ, R, h⟩ := q
  unfold rdVar at h
  split at h
  · rename_i d e
    obtain ⟨u, ev, r⟩ := R.cell v _ e
    exact ⟨u, ev, h u H (Go.refl R) r⟩
  · rename_i d e
    obtain ⟨u, ev, _⟩ := R.cell v _ e
    obtain ⟨g, q⟩ := Go.share R e
    exact ⟨u, ev, h u H g (q u ev)⟩
  · exact h.elim
/-! ### evaluation -/
def forVc (v : Nat) (B : Bd) (F : Fs) (δ : DEnv) : Option Cell → RS
  | some (.ref _) => sForR v B F 1000000 0 δ
  | some (.own (.list ds)) => (sForR v B F 1000000 0 (δ.set v (some (.ref (.list ds))))).map (unpin v)
  | _ => sFor (iAny (rdVar v)) B F δ
theorem forV_e (v : Nat) (B : Bd) (F : Fs) : sForV v B F δ = forVc v B F δ (slot δ v) := by
  rw [slot_eq]
  unfold sForV forVc
  cases h : δ[v]? with
  | none => rfl
  | some x => cases x with
    | none => rfl
    | some c => cases c with
      | own d => cases d <;> rfl
      | _ => rfl
theorem forVc_v (v : Nat) (B : Bd) (F : Fs) {d : D} : forVc v B F δ (some (.val d)) = sFor (iAny (rdVar v)) B F δ := rfl
theorem forVc_r (v : Nat) (B : Bd) (F : Fs) {d : D} : forVc v B F δ (some (.ref d)) = sForR v B F 1000000 0 δ := rfl
theorem forVc_o (v : Nat) (B : Bd) (F : Fs) {ds : List D} : forVc v B F δ (some (.own (.list ds))) = (sForR v B F 1000000 0 (δ.set v (some (.ref (.list ds))))).map (unpin v) := rfl
theorem map_n {f : DEnv → DEnv} : (RS.next δ).map f = .next (f δ) := rfl
theorem map_r {f : DEnv → DEnv} {c : Cell} : (RS.ret c δ).map f = .ret c (f δ) := rfl
theorem r2_2 (m : Mir) (i : Nat) (g : Cell → DEnv → R D) (d0 d1 d2 : D) (ds : List D) {d : D} : r2 m 2 i g (d0 :: d1 :: d2 :: ds) δ (some d) = (cellResR i 2 (m (.val d0 :: .val d1 :: .ref d :: ds.map .val)) δ).bind g := rfl
/-! pop, index, keywords -/
def lOne1 (d : Opd) (δ : DEnv) : R (List Opd) := .ok [d] δ
theorem lOne_e (F : Fe Opd) : lOne F δ = (F δ).bind lOne1 := rfl
theorem lOne1_e (d : Opd) : lOne1 d δ = .ok [d] δ := rfl
def opN2 (f : List D → List D → Option D) : Option (List D) → Option (List D) → Option D
  | some a, some b => f a b
  | _, _ => none
theorem opN2_e {f : List D → List D → Option D} {a b : List D} : opN2 f (some a) (some b) = f a b := rfl
def ck2 (f : List D → List D → Option D) (os ks : List Opd) (δ : DEnv) : R D := R.of (opN2 f (opL δ os) (opL δ ks)) δ
def ck1 (f : List D → List D → Option D) (G : Fe (List Opd)) (os : List Opd) (δ : DEnv) : R D := (G δ).bind (ck2 f os)
theorem fCallK_e (f : List D → List D → Option D) (F G : Fe (List Opd)) : fCallK f F G δ = (F δ).bind (ck1 f G) := by
  unfold fCallK
  congr 1
  funext os δ1
  unfold ck1
  congr 1
  funext ks δ2
  unfold ck2
  rw [opds_e, opds_e]
  cases opL δ2 os with
  | none => rfl
  | some a => cases opL δ2 ks <;> rfl
theorem ck1_e (f : List D → List D → Option D) (G : Fe (List Opd)) (os : List Opd) : ck1 f G os δ = (G δ).bind (ck2 f os) := rfl
theorem ck2_e (f : List D → List D → Option D) (os ks : List Opd) : ck2 f os ks δ = R.of (opN2 f (opL δ os) (opL δ ks)) δ := rfl
end
end Dl

set_option Elab.async false
set_option linter.all false
set_option maxRecDepth 100000
set_option maxHeartbeats 400000
/-! Dl23: kinds of data (abstract values), what they say, when one says no less than another one. -/
namespace Dl
open PySem PySem.Spec PyProof.Rows L2 TL
/-! ### data, compared place by place -/
mutual
def eqD : D → D → Bool
  | .none, .none => true
  | .bool a, .bool b => a == b
  | .int a, .int b => decide (a = b)
  | .str a, .str b => decide (tl a = tl b)
  | .list a, .list b => eqDs a b
  | .tuple a, .tuple b => eqDs a b
  | .dict a, .dict b => eqDd a b
  | _, _ => false
def eqDs : List D → List D → Bool
  | [], [] => true
  | a :: as, b :: bs => eqD a b && eqDs as bs
  | _, _ => false
def eqDd : List (D × D) → List (D × D) → Bool
  | [], [] => true
  | (k, a) :: as, (j, b) :: bs => eqD k j && eqD a b && eqDd as bs
  | _, _ => false
end
theorem tl_inj {a b : Str} (h : tl a = tl b) : a = b := by
  obtain ⟨⟨a⟩⟩ := a
  obtain ⟨⟨b⟩⟩ := b
  have : a = b := h
  rw [this]
mutual
theorem eqD_ok : ∀ {a b : D}, eqD a b = true → a = b
  | .none, b, h => by cases b <;> first | rfl | (simp [eqD] at h)
  | .bool x, b, h => by
    cases b <;> simp [eqD] at h
    rw [h]
  | .int x, b, h => by
    cases b <;> simp [eqD] at h
    rw [h]
  | .str x, b, h => by
    cases b with
    | str y =>
      simp only [eqD, decide_eq_true_eq] at h
      rw [tl_inj h]
    | _ => simp [eqD] at h
  | .list x, b, h => by
    cases b with
    | list y =>
      simp only [eqD] at h
      rw [eqDs_ok (a := x) (b := y) h]
    | _ => simp [eqD] at h
  | .tuple x, b, h => by
    cases b with
    | tuple y =>
      simp only [eqD] at h
      rw [eqDs_ok (a := x) (b := y) h]
    | _ => simp [eqD] at h
  | .dict x, b, h => by
    cases b with
    | dict y =>
      simp only [eqD] at h
      rw [eqDd_ok (a := x) (b := y) h]
    | _ => simp [eqD] at h
theorem eqDs_ok : ∀ {a b : List D}, eqDs a b = true → a = b
  | [], b, h => by cases b <;> first | rfl | (simp [eqDs] at h)
  | x :: xs, b, h => by
    cases b with
    | nil => simp [eqDs] at h
    | cons y ys =>
      simp only [eqDs, Bool.and_eq_true] at h
      rw [eqD_ok h.1, eqDs_ok h.2]
theorem eqDd_ok : ∀ {a b : List (D × D)}, eqDd a b = true → a = b
  | [], b, h => by cases b <;> first | rfl | (simp [eqDd] at h)
  | (k, x) :: xs, b, h => by
    cases b with
    | nil => simp [eqDd] at h
    | cons y ys =>
      obtain ⟨j, y⟩ := y
      simp only [eqDd, Bool.and_eq_true] at h
      rw [eqD_ok h.1.1, eqD_ok h.1.2, eqDd_ok h.2]
end
/-! ### kinds -/
inductive AT where
  | any
  | con (d : D)
  | int (lo hi : Int)
  | bool
  | str (lo hi a z : Nat)
  | tup (Ts : List AT)
  | lst (T : AT) (lo hi : Nat)
  | row (Ts : List AT)
  | alt (Ts : List AT)
  | bag
  | nm (k : Nat) (T : AT)
/-- what the named kinds say -/
class Nms where
  I : Nat → D → Prop
section
variable [J : Nms]
mutual
def has : AT → D → Prop
  | .any, _ => True
  | .con d, x => x = d
  | .int lo hi, x => ∃ i, x = .int i ∧ lo ≤ i ∧ i ≤ hi
  | .bool, x => ∃ b, x = .bool b
  | .str lo hi a z, x => ∃ s : Str, x = .str s ∧ lo ≤ s.length ∧ s.length ≤ hi ∧ ∀ c ∈ tl s, a ≤ c ∧ c ≤ z
  | .tup Ts, x => ∃ ds, x = .tuple ds ∧ hasAll Ts ds
  | .lst T lo hi, x => ∃ ds, x = .list ds ∧ lo ≤ ds.length ∧ ds.length ≤ hi ∧ ∀ d ∈ ds, has T d
  | .row Ts, x => ∃ ds, x = .list ds ∧ hasAll Ts ds
  | .alt Ts, x => hasOne Ts x
  | .bag, x => ∃ b, x = bagD b
  | .nm k T, x => J.I k x ∧ has T x
def hasAll : List AT → List D → Prop
  | [], ds => ds = []
  | T :: Ts, ds => ∃ d r, ds = d :: r ∧ has T d ∧ hasAll Ts r
def hasOne : List AT → D → Prop
  | [], _ => False
  | T :: Ts, d => has T d ∨ hasOne Ts d
end
/-- a kind laid open: what stands behind a constant, behind a name -/
def view : AT → AT
  | .con (.int i) => .int i i
  | .con (.bool _) => .bool
  | .con (.str s) => .str s.length s.length ((tl s).foldl min 2000000) ((tl s).foldl max 0)
  | .con (.list ds) => .row (ds.map .con)
  | .con (.tuple ds) => .tup (ds.map .con)
  | .nm _ T => T
  | T => T
/-! ### says no less -/
def all2 (f : AT → AT → Bool) : List AT → List AT → Bool
  | [], [] => true
  | a :: as, b :: bs => f a b && all2 f as bs
  | _, _ => false
/-- the flat part of le -/
def le1 (f : AT → AT → Bool) : AT → AT → Bool
  | .con d, .con e => eqD d e
  | .int a b, .int c d => decide (c ≤ a) && decide (b ≤ d)
  | .bool, .bool => true
  | .str a b c d, .str a' b' c' d' => decide (a' ≤ a) && (decide (b ≤ b') && (decide (b = 0) || (decide (c' ≤ c) && decide (d ≤ d'))))
  | .tup Ss, .tup Ts => all2 f Ss Ts
  | .row Ss, .row Ts => all2 f Ss Ts
  | .row Ss, .lst T lo hi => decide (lo ≤ Ss.length) && (decide (Ss.length ≤ hi) && Ss.all fun S => f S T)
  | .lst S a b, .lst T lo hi => decide (lo ≤ a) && (decide (b ≤ hi) && (decide (b = 0) || f S T))
  | .bag, .bag => true
  | _, _ => false
def isAny : AT → Bool
  | .any => true
  | _ => false
def inAlts (f : AT → Bool) : AT → Bool
  | .alt Ts => Ts.any f
  | _ => false
def viaV (g : AT → AT → Bool) : AT → AT → Bool
  | .con _, .con _ => false
  | .con d, T => g (view (.con d)) T
  | _, _ => false
def sameNm (k : Nat) (f : AT → Bool) : AT → Bool
  | .nm j T => k == j && f T
  | _ => false
def leC (f : AT → AT → Bool) (S T : AT) : Bool := match S with
  | .alt Ss => Ss.all fun S => f S T
  | .nm k S' => sameNm k (f S') T || (inAlts (f (.nm k S')) T || f S' T)
  | S => inAlts (f S) T || (le1 f S T || viaV (le1 f) S T)
def le : Nat → AT → AT → Bool
  | 0, _, _ => false
  | n + 1, S, T => isAny T || leC (le n) S T
abbrev leT (S T : AT) : Bool := le 40 S T
/-! ### joined -/
def addT : List AT → AT → List AT
  | [], T => [T]
  | S :: Ss, T => if leT T S then S :: Ss else if leT S T then addT Ss T else match S, T with
    | .int a b, .int c d => .int (min a c) (max b d) :: Ss
    | .con (.int i), .int c d => .int (min i c) (max i d) :: Ss
    | .int c d, .con (.int i) => .int (min i c) (max i d) :: Ss
    | .bool, .con (.bool _) => .bool :: Ss
    | .con (.bool _), .con (.bool _) => .bool :: Ss
    | .str a b c d, .str a' b' c' d' => .str (min a a') (max b b') (min c c') (max d d') :: Ss
    | .lst S a b, .lst T c d => if leT S T then .lst T (min a c) (max b d) :: Ss else if leT T S then .lst S (min a c) (max b d) :: Ss else .lst S a b :: addT Ss (.lst T c d)
    | S, T => S :: addT Ss T
def alts : AT → List AT
  | .alt Ts => Ts
  | T => [T]
def mkAlt : List AT → AT
  | [T] => T
  | Ts => .alt Ts
def joinAll (Ts : List AT) : AT := mkAlt (Ts.foldl (fun acc T => (alts T).foldl addT acc) [])
end
end Dl

set_option Elab.async false
set_option linter.all false
set_option maxRecDepth 100000
set_option maxHeartbeats 400000
/-! Dl24: kinds of slots and frames; expressions' kinds, as functions that the kernel evaluates. -/
namespace Dl
open PySem PySem.Spec PyProof.Rows L2 TL
section
variable [J : Nms]
/-! ### slots -/
inductive AC where
  | junk
  | calm
  | gone
  | val (T : AT)
  | own (T : AT)
  | ref (T : AT)
def isCalm : Option Cell → Bool
  | none => true
  | some (.val _) => true
  | _ => false
def chas : AC → Option Cell → Prop
  | .junk, c => soft c = true
  | .calm, c => isCalm c = true
  | .gone, c => c = none
  | .val T, c => ∃ d, c = some (.val d) ∧ has T d
  | .own T, c => ∃ d, c = some (.own d) ∧ has T d
  | .ref T, c => ∃ d, c = some (.ref d) ∧ has T d
def leK : AC → AC → Bool
  | .ref S, .ref T => leT S T
  | .ref _, _ => false
  | _, .junk => true
  | .calm, .calm => true
  | .gone, .calm => true
  | .gone, .gone => true
  | .val _, .calm => true
  | .val S, .val T => leT S T
  | .own S, .own T => leT S T
  | _, _ => false
/-! ### frames -/
abbrev AEnv := List AC
def ehas : AEnv → DEnv → Prop
  | [], δ => δ = []
  | a :: as, δ => ∃ c r, δ = c :: r ∧ chas a c ∧ ehas as r
def leE : AEnv → AEnv → Bool
  | [], [] => true
  | a :: as, b :: bs => leK a b && leE as bs
  | _, _ => false
/-! ### what is evaluated -/
/-- α's kind β, by R; what a function of the frame comes to, kind by kind -/
structure AbG {α β : Type} (R : β → α → Prop) (F : Fe α) where
  a : AEnv → Option (β × AEnv)
  s : ∀ {Γ : AEnv} {T : β} {Γ' : AEnv} {δ : DEnv}, a Γ = some (T, Γ') → ehas Γ δ → ∃ d δ', F δ = .ok d δ' ∧ R T d ∧ ehas Γ' δ'
inductive AO where
  | tmp (T : AT)
  | var (i : Nat)
def ptI (T : Option (Int × Int)) (o : Option Int) : Prop := match T, o with
  | none, none => True
  | some (a, b), some i => a ≤ i ∧ i ≤ b
  | _, _ => False
/-- a test: the frame where it is so, the frame where it isn't -/
structure AbT (F : Fe Bool) where
  a : AEnv → Option (Option AEnv × Option AEnv)
  s : ∀ {Γ : AEnv} {x y : Option AEnv} {δ : DEnv}, a Γ = some (x, y) → ehas Γ δ → ∃ b δ', F δ = .ok b δ' ∧ (b = true → ∃ Γ', x = some Γ' ∧ ehas Γ' δ') ∧ (b = false → ∃ Γ', y = some Γ' ∧ ehas Γ' δ')
/-! ### the parts -/
/-! ### operations -/
structure Op2 (f : D → D → Option D) where
  a : AT → AT → Option AT
  s : ∀ {S T U : AT} {d e : D}, a S T = some U → has S d → has T e → ∃ u, f d e = some u ∧ has U u
structure OpN (f : List D → Option D) where
  a : List AT → Option AT
  s : ∀ {Ts : List AT} {U : AT} {ds : List D}, a Ts = some U → hasAll Ts ds → ∃ u, f ds = some u ∧ has U u
structure Op1 (f : D → Option D) where
  a : AT → Option AT
  s : ∀ {S U : AT} {d : D}, a S = some U → has S d → ∃ u, f d = some u ∧ has U u
structure OpM (f : D → List D → Option D) where
  a : AT → List AT → Option AT
  s : ∀ {S U : AT} {Ts : List AT} {d : D} {ds : List D}, a S Ts = some U → has S d → hasAll Ts ds → ∃ u, f d ds = some u ∧ has U u
structure OpK (f : List D → List D → Option D) where
  a : List AT → List AT → Option AT
  s : ∀ {Ts Us : List AT} {U : AT} {ds es : List D}, a Ts Us = some U → hasAll Ts ds → hasAll Us es → ∃ u, f ds es = some u ∧ has U u
/-! ### slices -/
/-- the bounds of intsT of a kind -/
def rng : AT → Option (Int × Int)
  | .con (.int i) => some (i, i)
  | .int a b => some (a, b)
  | .nm _ (.int a b) => some (a, b)
  | .alt Ts => match Ts with
    | .con (.int i) :: r => r.foldl (fun acc T => acc.bind fun (a, b) => match T with
      | .con (.int j) => some (min a j, max b j)
      | .int c d => some (min a c, max b d)
      | _ => none) (some (i, i))
    | .int i k :: r => r.foldl (fun acc T => acc.bind fun (a, b) => match T with
      | .con (.int j) => some (min a j, max b j)
      | .int c d => some (min a c, max b d)
      | _ => none) (some (i, k))
    | _ => none
  | _ => none
/-- a kind's intsT lie within -/
def within (T : AT) (z : Int × Int) : Bool := leT T (.int z.1 z.2)
/-- its intsT' bounds, looked at once more -/
def intsT (T : AT) : Option (Int × Int) := (rng T).bind fun z => if within T z then some z else none
structure OpSl where
  a : AT → Option (Int × Int) → Option (Int × Int) → Option AT
  s : ∀ {S U : AT} {L R : Option (Int × Int)} {d : D} {l r : Option Int}, a S L R = some U → has S d → ptI L l → ptI R r → ∃ u, sliceF d l r = some u ∧ has U u
/-! ### tests -/
end
end Dl

set_option Elab.async false
set_option linter.all false
set_option maxRecDepth 100000
set_option maxHeartbeats 400000
/-! Dl25: operations on kinds. -/
namespace Dl
open PySem PySem.Spec PyProof.Rows L2 TL
section
variable [J : Nms]
/-! ### over alternatives -/
def allSome {α : Type} : List (Option α) → Option (List α)
  | [] => some []
  | none :: _ => none
  | some a :: r => (allSome r).map (a :: ·)
/-! ### all data of a kind, one by one -/
/-! ### the size of data -/
/-- depth and length of all data of a kind, which repr can tell -/
def szT : Nat → AT → Option (Nat × Nat)
  | 0, _ => none
  | n + 1, T => match T with
    | .con d => if good d then some (d.depth, szB d) else none
    | .int lo hi => if lo.natAbs.log2 < 1919 ∧ hi.natAbs.log2 < 1919 then some (0, 2000) else none
    | .bool => some (0, 5)
    | .str _ hi _ z => if z < 4294967296 then some (0, 10 * hi + 2) else none
    | .tup Ts => (allSome (Ts.map (szT n))).map fun l => (l.foldl (fun a z => max a z.1) 0 + 1, l.foldl (fun a z => a + z.2 + 2) 0 + 5)
    | .row Ts => (allSome (Ts.map (szT n))).map fun l => (l.foldl (fun a z => max a z.1) 0 + 1, l.foldl (fun a z => a + z.2 + 2) 0 + 5)
    | .lst T _ hi => if hi = 0 then some (1, 5) else (szT n T).map fun z => (z.1 + 1, hi * (z.2 + 2) + 5)
    | .alt Ts => (allSome (Ts.map (szT n))).map fun l => (l.foldl (fun a z => max a z.1) 0, l.foldl (fun a z => max a z.2) 0)
    | .nm _ T => szT n T
    | _ => none
/-! ### the operations -/
theorem hasF_t {x : D} {ds : List D} : hasF x (.tuple ds) = if x.plain = true ∧ PyData.plainAll ds = true ∧ x.depth ≤ 60 then some (ds.any fun y => PyData.eqv y x) else none := by cases x <;> rfl
/-! items -/
/-- those of a row within bounds, all of which are there -/
def cut (Ts : List AT) (a b : Int) : Option AT := if 0 ≤ a ∧ b < Ts.length then some (joinAll ((Ts.drop a.toNat).take (b - a + 1).toNat)) else if a = b ∧ a < 0 ∧ -(Ts.length : Int) ≤ a then Ts[(a + Ts.length).toNat]? else none
/-! built-ins -/
/-! texts -/
theorem strs_of {a z : Nat} : ∀ {ds : List D} {lo hi : Nat}, (∀ x ∈ ds, has (AT.str lo hi a z) x) → ∃ ws : List Str, ds = ws.map .str ∧ ∀ w ∈ ws, lo ≤ w.length ∧ w.length ≤ hi ∧ ∀ c ∈ tl w, a ≤ c ∧ c ≤ z
  | [], _, _, _ => ⟨[], rfl, fun w m => by cases m⟩
  | d :: ds, lo, hi, h => by
    have := h d List.mem_cons_self
    simp only [has] at this
    obtain ⟨s, rfl, h1⟩ := this
    obtain ⟨ws, rfl, h2⟩ := strs_of fun x m => h x (List.mem_cons_of_mem _ m)
    refine ⟨s :: ws, rfl, fun w m => ?_⟩
    rcases List.mem_cons.mp m with rfl | m
    · exact h1
    · exact h2 w m
/-! slices -/
def one (z : Option (Int × Int)) : Option (Option Int) := match z with
  | none => some none
  | some (a, b) => if a = b then some (some a) else none
end
end Dl

set_option Elab.async false
set_option linter.all false
set_option maxRecDepth 100000
set_option maxHeartbeats 400000
/-! Dl26: statements' kinds: stores, branches, loops. -/
namespace Dl
open PySem PySem.Spec PyProof.Rows L2 TL
section
variable [J : Nms]
structure AR where
  nx : Option AEnv := none
  rt : Option (AC × AEnv) := none
  bk : Option AEnv := none
  ct : Option AEnv := none
def inO (x : Option AEnv) (δ : DEnv) : Prop := ∃ Γ, x = some Γ ∧ ehas Γ δ
def inR (x : Option (AC × AEnv)) (c : Cell) (δ : DEnv) : Prop := ∃ a Γ, x = some (a, Γ) ∧ chas a (some c) ∧ ehas Γ δ
def rhas (r : AR) : RS → Prop
  | .next δ => inO r.nx δ
  | .ret c δ => inR r.rt c δ
  | .brk δ => inO r.bk δ
  | .cont δ => inO r.ct δ
  | .err _ _ => False
  | .bad => False
structure AbS (F : Fs) where
  a : AEnv → Option AR
  s : ∀ {Γ : AEnv} {r : AR} {δ : DEnv}, a Γ = some r → ehas Γ δ → rhas r (F δ)
/-! stores -/
structure AbBd (B : Bd) where
  a : AT → AEnv → Option AEnv
  s : ∀ {T : AT} {Γ Γ' : AEnv} {d : D} {δ : DEnv}, a T Γ = some Γ' → has T d → ehas Γ δ → ∃ δ', B d δ = some δ' ∧ ehas Γ' δ'
structure AbBds (B : Bds) where
  a : List AT → AEnv → Option AEnv
  s : ∀ {T : List AT} {Γ Γ' : AEnv} {d : List D} {δ : DEnv}, a T Γ = some Γ' → hasAll T d → ehas Γ δ → ∃ δ', B d δ = some δ' ∧ ehas Γ' δ'
structure OpI (f : Int → Int → Int) where
  a : Int → Int → Int → Int → Int × Int
  s : ∀ {a1 b1 a2 b2 i j : Int}, a1 ≤ i → i ≤ b1 → a2 ≤ j → j ≤ b2 → (a a1 b1 a2 b2).1 ≤ f i j ∧ f i j ≤ (a a1 b1 a2 b2).2
/-! ### loops -/
/-- kinds of the items that may come, from the left -/
def pre : List AT → List D → Prop
  | [], ds => ds = []
  | T :: Ts, ds => ds = [] ∨ ∃ d r, ds = d :: r ∧ has T d ∧ pre Ts r
end
end Dl

set_option Elab.async false
set_option linter.all false
set_option maxRecDepth 100000
set_option maxHeartbeats 400000
/-! Dl27: comprehensions' and calls' kinds. -/
namespace Dl
open PySem PySem.Spec PyProof.Rows L2 TL
section
variable [J : Nms]
/-! ### comprehensions -/
/-! ### calls -/
structure AbM (m : Mir) where
  a : List AC → Option (AC × AEnv)
  s : ∀ {as : List AC} {r : AC} {Γo : AEnv} {cells : List Cell}, a as = some (r, Γo) → ehas as (cells.map some) → ∃ c o, m cells = .ok c o ∧ chas r (some c) ∧ ehas Γo o
end
end Dl

set_option Elab.async false
set_option linter.all false
set_option maxRecDepth 100000
set_option maxHeartbeats 400000
/-! Dl28: calls' kinds; the bag's taking; what is taken out of a list by the bag. -/
namespace Dl
open PySem PySem.Spec PyProof.Rows L2 TL
section
variable [J : Nms]
/-- how a result is taken -/
structure Tk (g : Cell → DEnv → R D) where
  a : AC → Option AT
  s : ∀ {r : AC} {T : AT} {c : Cell} {δ : DEnv}, a r = some T → chas r (some c) → ∃ d, g c δ = .ok d δ ∧ has T d
/-! ### out of a list -/
/-! ### x != [], x == [] -/
theorem eqv_nil (ds : List D) : PyData.eqv (.list ds) (.list []) = decide (ds = []) := by
  cases ds <;> simp [PyData.eqv, PyData.eqvAll]
/-! ### what is asked of the kernel -/
def gives {m : Mir} (M : AbM m) (as : List AC) (r : AC) (o : AEnv) : Bool := match M.a as with
  | some z => leK z.1 r && leE z.2 o
  | none => false
end
end Dl

set_option Elab.async false
set_option linter.all false
set_option maxRecDepth 100000
set_option maxHeartbeats 400000
/-! Dl29: dict displays. -/
namespace Dl
open PySem PySem.Spec PyProof.Rows L2 TL
variable [Reg] [TabC]
/-- in its place, or at the end -/
def putKD (kvs : List (D × D)) (k d : D) : List (D × D) := if (kvs.any fun p => eqD p.1 k) = true then kvs.map (fun p => if eqD p.1 k = true then (p.1, d) else p) else kvs ++ [(k, d)]
def mergeD (kvs more : List (D × D)) : List (D × D) := more.foldl (fun acc p => putKD acc p.1 p.2) kvs
/-- what stands at a key -/
def getKD : List (D × D) → D → Option D
  | [], _ => none
  | (k, d) :: r, j => if eqD k j = true then some d else getKD r j
def keyOk : D → Bool
  | .int _ | .str _ => true
  | _ => false
mutual
theorem eqD_refl : ∀ d : D, eqD d d = true
  | .none => by simp [eqD]
  | .bool _ => by simp [eqD]
  | .int _ => by simp [eqD]
  | .str _ => by simp [eqD]
  | .list xs => by simp only [eqD]; exact eqDs_refl xs
  | .tuple xs => by simp only [eqD]; exact eqDs_refl xs
  | .dict xs => by simp only [eqD]; exact eqDd_refl xs
theorem eqDs_refl : ∀ d : List D, eqDs d d = true
  | [] => by simp [eqDs]
  | x :: xs => by simp only [eqDs, eqD_refl x, eqDs_refl xs, Bool.and_self]
theorem eqDd_refl : ∀ d : List (D × D), eqDd d d = true
  | [] => by simp [eqDd]
  | (k, x) :: xs => by simp only [eqDd, eqD_refl k, eqD_refl x, eqDd_refl xs, Bool.and_self]
end
theorem kD_inj {j k : Key} (h : kD j = kD k) : j = k := by
  cases j with
  | inl i =>
    cases k with
    | inl i' =>
      injection h with h
      rw [h]
    | inr x => cases h
  | inr x =>
    cases k with
    | inl i => cases h
    | inr y =>
      injection h with h
      rw [h]
theorem eqD_kD (j k : Key) : eqD (kD j) (kD k) = decide (j = k) := by
  by_cases h : j = k
  · subst h
    rw [eqD_refl]
    simp
  · rw [decide_eq_false h]
    cases e : eqD (kD j) (kD k) with
    | false => rfl
    | true => exact absurd (kD_inj (eqD_ok e)) h
theorem keyOk_ex {d : D} (h : keyOk d = true) : ∃ k, d = kD k := by
  cases d with
  | int i => exact ⟨.inl i, rfl⟩
  | str x => exact ⟨.inr x, rfl⟩
  | _ => cases h
section
variable {K : PySem.W.Frag} {M M' : Msk} {H H' : Hp}
theorem DatKV.nil : DatKV K M H [] [] := by simp only [DatKV]
theorem DatKV.cons {k : Key} {d : D} {v : V} {ds : List (D × D)} {kv : List (Key × V)} (h : Dat K M H d v) (t : DatKV K M H ds kv) : DatKV K M H ((kD k, d) :: ds) ((k, v) :: kv) := by
  simp only [DatKV]
  exact ⟨k, v, kv, rfl, rfl, h, t⟩
theorem DatKV.inv {p : D × D} {ds : List (D × D)} {kv : List (Key × V)} (h : DatKV K M H (p :: ds) kv) : ∃ j v r, kv = (j, v) :: r ∧ p.1 = kD j ∧ Dat K M H p.2 v ∧ DatKV K M H ds r := by
  obtain ⟨k, d⟩ := p
  simpa only [DatKV] using h
theorem DatKV.nil_inv {kv : List (Key × V)} (h : DatKV K M H [] kv) : kv = [] := by simpa only [DatKV] using h
theorem DatKV.len : ∀ {ds : List (D × D)} {kv : List (Key × V)}, DatKV K M H ds kv → kv.length = ds.length
  | [], _, h => by rw [h.nil_inv]; rfl
  | p :: ds, _, h => by
    obtain ⟨j, v, r, rfl, _, _, h2⟩ := h.inv
    rw [List.length_cons, List.length_cons, h2.len]
theorem DatKV.any (k : Key) : ∀ {ds : List (D × D)} {kv : List (Key × V)}, DatKV K M H ds kv → (ds.any fun p => eqD p.1 (kD k)) = kv.any fun p => decide (p.1 = k)
  | [], _, h => by rw [h.nil_inv]; rfl
  | p :: ds, _, h => by
    obtain ⟨j, v, r, rfl, e, _, h2⟩ := h.inv
    rw [List.any_cons, List.any_cons, h2.any k, e, eqD_kD]
theorem DatKV.append {k : Key} {d : D} {v : V} (g : Dat K M H d v) : ∀ {ds : List (D × D)} {kv : List (Key × V)}, DatKV K M H ds kv → DatKV K M H (ds ++ [(kD k, d)]) (kv ++ [(k, v)])
  | [], _, h => by
    rw [h.nil_inv]
    exact .cons g .nil
  | p :: ds, _, h => by
    obtain ⟨j, w, r, rfl, e, h1, h2⟩ := h.inv
    obtain ⟨p1, p2⟩ := p
    dsimp only at e
    subst e
    exact .cons h1 (h2.append g)
theorem DatKV.map {k : Key} {d : D} {v : V} (g : Dat K M H d v) : ∀ {ds : List (D × D)} {kv : List (Key × V)}, DatKV K M H ds kv → DatKV K M H (ds.map fun p => if eqD p.1 (kD k) = true then (p.1, d) else p) (kv.map fun p => if p.1 = k then (p.1, v) else p)
  | [], _, h => by
    rw [h.nil_inv]
    exact .nil
  | p :: ds, _, h => by
    obtain ⟨j, w, r, rfl, e, h1, h2⟩ := h.inv
    obtain ⟨p1, p2⟩ := p
    dsimp only at e
    subst e
    rw [List.map_cons, List.map_cons]
    dsimp only
    rw [eqD_kD]
    by_cases q : j = k
    · rw [decide_eq_true q, if_pos rfl, if_pos q]
      exact .cons g (h2.map g)
    · rw [decide_eq_false q, if_neg (by decide), if_neg q]
      exact .cons h1 (h2.map g)
theorem DatKV.put {k : Key} {d : D} {v : V} {ds : List (D × D)} {kv : List (Key × V)} (h : DatKV K M H ds kv) (g : Dat K M H d v) : DatKV K M H (putKD ds (kD k) d) (putK kv k v) := by
  unfold putKD putK
  rw [h.any k]
  split
  · exact h.map g
  · exact h.append g
theorem DatKV.get (k : Key) : ∀ {ds : List (D × D)} {kv : List (Key × V)}, DatKV K M H ds kv → (getKD ds (kD k) = none ∧ valV kv k = none) ∨ ∃ d v, getKD ds (kD k) = some d ∧ valV kv k = some v ∧ Dat K M H d v
  | [], _, h => by
    rw [h.nil_inv]
    exact .inl ⟨rfl, rfl⟩
  | p :: ds, _, h => by
    obtain ⟨j, w, r, rfl, e, h1, h2⟩ := h.inv
    obtain ⟨p1, p2⟩ := p
    dsimp only at e
    subst e
    unfold getKD
    rw [eqD_kD]
    by_cases q : j = k
    · rw [decide_eq_true q, if_pos rfl, valV_pos (p := (j, w)) q]
      exact .inr ⟨_, _, rfl, rfl, h1⟩
    · rw [decide_eq_false q, if_neg (by decide), valV_neg (p := (j, w)) q]
      exact h2.get k
/-- pairs that are made -/
def PairR (K : PySem.W.Frag) (M : Msk) (H : Hp) : List (D × D) → List (V × V) → Prop
  | [], vs => vs = []
  | p :: ds, vs => ∃ q r, vs = q :: r ∧ Dat K M H p.1 q.1 ∧ Dat K M H p.2 q.2 ∧ PairR K M H ds r
theorem PairR.mv (m : Mv M H M' H') : ∀ {ds : List (D × D)} {vs : List (V × V)}, PairR K M H ds vs → PairR K M' H' ds vs
  | [], _, h => h
  | p :: ds, _, ⟨q, r, e, h1, h2, h3⟩ => ⟨q, r, e, h1.mv m, h2.mv m, PairR.mv m h3⟩
theorem kD_v {k : Key} {v : V} (h : Dat K M H (kD k) v) : v = kV k := by
  cases k with
  | inl i =>
    simp only [kD, Dat] at h
    exact h
  | inr x =>
    simp only [kD, Dat] at h
    exact h
theorem PairR.keys : ∀ {ds : List (D × D)} {vs : List (V × V)}, PairR K M H ds vs → (ds.all fun p => keyOk p.1) = true → ∃ kv : List (Key × V), vs = kv.map (fun p => (kV p.1, p.2)) ∧ DatKV K M H ds kv
  | [], _, h, _ => ⟨[], h, .nil⟩
  | p :: ds, _, ⟨q, r, e, h1, h2, h3⟩, k => by
    rw [List.all_cons, Bool.and_eq_true] at k
    obtain ⟨kv, e2, h4⟩ := PairR.keys h3 k.2
    obtain ⟨j, ej⟩ := keyOk_ex k.1
    obtain ⟨p1, p2⟩ := p
    dsimp only at ej
    subst ej
    refine ⟨(j, q.2) :: kv, ?_, .cons h2 h4⟩
    rw [e, e2, List.map_cons]
    congr 1
    have := kD_v h1
    exact Prod.ext this rfl
end
section
variable {X : Cx} {W : WX} {Mi : Msk} {σ : St} {H : Hp} {δ : DEnv}
def fPNil : Fe (List (D × D)) := fun δ => .ok [] δ
def fPCons (A B : Fe D) (F : Fe (List (D × D))) : Fe (List (D × D)) := fun δ => (A δ).bind fun k δ1 => (B δ1).bind fun d δ2 => (F δ2).bind fun r δ3 => .ok ((k, d) :: r) δ3
def okDct (ps : List (D × D)) : Option D := if ps.length ≤ 15 ∧ (ps.all fun p => keyOk p.1) = true then some (.dict (mergeD [] ps)) else none
/-- {k: v, ..} -/
def fDct (F : Fe (List (D × D))) : Fe D := fun δ => match F δ with
  | .ok ps δ1 => R.of (okDct ps) δ1
  | _ => .bad
theorem do_dnew {pos : Pos} : DO X W (.Dict [] [] pos) (fDct fPNil) := by
  refine PE.imp pe_dnewK fun σ H Q ⟨Mi, δ, R, q⟩ => ?_
  intro p np
  exact q p _ (Go.new R np) np (.inl ⟨[], upd_same, .nil⟩)
end
section
variable {δ : DEnv}
theorem fPNil_e : fPNil δ = .ok [] δ := rfl
def pc1 (A B : Fe D) (F : Fe (List (D × D))) : D → DEnv → R (List (D × D)) := fun k δ1 => (B δ1).bind fun d δ2 => (F δ2).bind fun r δ3 => .ok ((k, d) :: r) δ3
def pc2 (k : D) (F : Fe (List (D × D))) : D → DEnv → R (List (D × D)) := fun d δ2 => (F δ2).bind fun r δ3 => .ok ((k, d) :: r) δ3
def pc3 (k d : D) : List (D × D) → DEnv → R (List (D × D)) := fun r δ3 => .ok ((k, d) :: r) δ3
theorem fPCons_e {A B : Fe D} {F : Fe (List (D × D))} : fPCons A B F δ = (A δ).bind (pc1 A B F) := rfl
theorem pc1_e {A B : Fe D} {F : Fe (List (D × D))} {k : D} : pc1 A B F k δ = (B δ).bind (pc2 k F) := rfl
theorem pc2_e {F : Fe (List (D × D))} {k d : D} : pc2 k F d δ = (F δ).bind (pc3 k d) := rfl
theorem pc3_e {k d : D} {r : List (D × D)} : pc3 k d r δ = .ok ((k, d) :: r) δ := rfl
def dct1 : R (List (D × D)) → R D
  | .ok ps δ1 => R.of (okDct ps) δ1
  | _ => .bad
theorem fDct_e {F : Fe (List (D × D))} : fDct F δ = dct1 (F δ) := by
  unfold fDct dct1
  cases F δ <;> rfl
theorem dct1_e {ps : List (D × D)} : dct1 (.ok ps δ) = R.of (okDct ps) δ := rfl
end
/-! the kinds -/
section
variable [J : Nms]
end
end Dl

set_option Elab.async false
set_option linter.all false
set_option maxRecDepth 100000
set_option maxHeartbeats 400000
/-! Dl30: repr of any datum, dicts too. -/
namespace Dl
open PySem PySem.Spec PyProof.Rows L2 TL
theorem big_no {K : PySem.W.Frag} {M : Msk} {H : Hp} {ds : List (D × D)} {kt : List (List Key × V)} (h : DatT K M H ds kt) (sh : PyData.showableKv ds = true) : False := by
  obtain ⟨r, rfl, _⟩ := datT_mark h
  simp only [PyData.showableKv, Bool.and_eq_true] at sh
  have q : PyData.showable bigD = false := by
    simp only [bigD, PyData.showable]
    decide +kernel
  rw [q] at sh
  cases sh.1.2
variable [TabC]
/-- what stands at sys.modules is a dict -/
def SysD (K : PySem.W.Frag) : Prop := ∃ o, K.lookup sysModules = some o ∧ o.cls = .type "dict"
def sysB (K : PySem.W.Frag) : Bool := match K.lookup sysModules with
  | some ⟨.type c, _, _, _⟩ => decide (c = "dict")
  | _ => false
theorem sysB_ok {K : PySem.W.Frag} (h : sysB K = true) : SysD K := by
  unfold sysB at h
  split at h
  · rename_i c od dt sl q
    exact ⟨_, q, congrArg Value.type (of_decide_eq_true h)⟩
  · cases h
section
variable {X : Cx} {M : Msk} {pins : List (Addr × Obj)} {s : Shared} {σ : St} {H : Hp}
theorem no_sys (sy : SysD X.K) (I : Inv X pins σ H s) {a : Addr} {o : Obj} (h : s.heap.get? a = some o) (hc : o.cls = .type "list") : a ≠ sysModules := fun z => by
  obtain ⟨p, q, e⟩ := sy
  have := I.kIn _ _ q
  rw [z, this] at h
  obtain rfl := Option.some.inj h
  rw [e] at hc
  simp at hc
theorem reads_keys {P : Program} {w : World} {h : Heap} {es : List DictEntry} {kvs : List (Key × Value)} (r : Pairs (mixKind P w) es kvs) : ReadsAll h (es.map (·.key)) (kvs.map fun p => kD p.1) [] := by
  induction r with
  | nil => exact .nil
  | cons h1 _ _ ih =>
    rcases keyIs_shape h1 with ⟨i, t, e1, e2⟩ | ⟨x, t, e1, e2⟩
    · rw [List.map_cons, List.map_cons, e2, e1]
      exact .cons (.int i t) ih
    · rw [List.map_cons, List.map_cons, e2, e1]
      exact .cons (.str x t) ih
theorem pairs_vals {P : Program} {w : World} {es : List DictEntry} {kvs : List (Key × Value)} (r : Pairs (mixKind P w) es kvs) : es.map (·.val) = kvs.map (·.2) := by
  induction r with
  | nil => rfl
  | cons _ h2 _ ih => rw [List.map_cons, List.map_cons, ih, h2]
theorem tup_at (I : Inv X pins σ H s) {a : Addr} {xs : List V} (h : TupAt X.K M H a xs) : ∃ its : List Value, Vals xs its ∧ ∃ o n, s.heap.get? a = some o ∧ o.cls = .type "tuple" ∧ o.data = .seq its.toArray n := by
  obtain ⟨its, rv, ⟨o, h1, h2, n, h3⟩, _⟩ := I.tuple h.sq
  exact ⟨its, rv, o, n, h1, h2, h3⟩
mutual
/-- a datum is read off the heap; none of its lists and dicts is sys.modules -/
theorem rdD (sy : SysD X.K) (I : Inv X pins σ H s) : ∀ {d : D} {v : V} {u : Value}, d.showable = true → Dat X.K M H d v → RelV v u → ∃ as, Reads s.heap u d as ∧ sysModules ∉ as
  | .none, v, u, sh, h, r => by
    simp only [Dat] at h
    subst h
    rw [show u = Value.none from r]
    exact ⟨[], .none, by simp⟩
  | .bool b, v, u, sh, h, r => by
    simp only [Dat] at h
    subst h
    rw [show u = Value.bool b from r]
    exact ⟨[], .bool b, by simp⟩
  | .int i, v, u, sh, h, r => by
    simp only [Dat] at h
    subst h
    obtain ⟨t, rfl⟩ := (show ∃ t, u = Value.int i t from r)
    exact ⟨[], .int i t, by simp⟩
  | .str i, v, u, sh, h, r => by
    simp only [Dat] at h
    subst h
    obtain ⟨t, rfl⟩ := (show ∃ t, u = Value.str i t from r)
    exact ⟨[], .str i t, by simp⟩
  | .list ds, v, u, sh, h, r => by
    simp only [Dat] at h
    obtain ⟨a, xs, rfl, l, rr⟩ := h
    rw [show u = Value.ref a from r]
    obtain ⟨z, its, n, rv, hl, e⟩ := rd_list I l.ls
    obtain ⟨as, ra, na⟩ := rdAll sy I (by simpa only [PyData.showable] using sh) rr rv
    refine ⟨a :: as, .list e rfl rfl ra, fun m => ?_⟩
    rcases List.mem_cons.mp m with m | m
    · exact no_sys sy I e rfl m.symm
    · exact na m
  | .tuple ds, v, u, sh, h, r => by
    simp only [Dat] at h
    obtain ⟨a, xs, rfl, l, rr⟩ := h
    rw [show u = Value.ref a from r]
    obtain ⟨its, rv, o, n, h1, h2, h3⟩ := tup_at I l
    obtain ⟨as, ra, na⟩ := rdAll sy I (by simpa only [PyData.showable] using sh) rr rv
    exact ⟨as, .tuple h1 h2 h3 ra, na⟩
  | .dict ds, v, u, sh, h, r => by
    simp only [Dat] at h
    simp only [PyData.showable] at sh
    rcases h with ⟨a, kv, rfl, l, rr⟩ | ⟨a, kt, rfl, l, rr⟩
    · rw [show u = Value.ref a from r]
      exact rdKV sy I l.2 sh rr
    · exact (big_no rr sh).elim
theorem rdAll (sy : SysD X.K) (I : Inv X pins σ H s) : ∀ {ds : List D} {xs : List V} {us : List Value}, PyData.showableAll ds = true → DatAll X.K M H ds xs → Vals xs us → ∃ as, ReadsAll s.heap us ds as ∧ sysModules ∉ as
  | [], _, us, sh, h, r => by
    rw [h.nil_inv] at r
    cases r
    exact ⟨[], .nil, by simp⟩
  | d :: ds, _, us, sh, h, r => by
    obtain ⟨v, t, rfl, h1, h2⟩ := h.cons_inv
    simp only [PyData.showableAll, Bool.and_eq_true] at sh
    cases r with
    | cons r1 r2 =>
      obtain ⟨as, ra, na⟩ := rdD sy I sh.1 h1 r1
      obtain ⟨bs, rb, nb⟩ := rdAll sy I sh.2 h2 r2
      exact ⟨as ++ bs, .cons ra rb, fun m => (List.mem_append.mp m).elim na nb⟩
theorem rdKV (sy : SysD X.K) (I : Inv X pins σ H s) {a : Addr} {kv : List (Key × V)} (h : Rd H a (.dK kv)) : ∀ {ds : List (D × D)}, PyData.showableKv ds = true → DatKV X.K M H ds kv → ∃ as, Reads s.heap (.ref a) (.dict ds) as ∧ sysModules ∉ as := fun {ds} sh rr => by
  obtain ⟨z, hd, vs, rel, o, es, ep, ho, hc, hdt, _, hp, nd⟩ := dk_rd I.hok h
  have ek : (kv.map fun p => kD p.1) = ds.map (·.1) := by
    clear h rel z sh
    induction ds generalizing kv with
    | nil => rw [rr.nil_inv]; rfl
    | cons p ds ih =>
      obtain ⟨j, w, r, rfl, e, h1, h2⟩ := rr.inv
      rw [List.map_cons, List.map_cons, ih h2, e]
  have ev : (kv.map fun p => kD p.1) = vs.map fun p => kD p.1 := by
    clear rr hp h ek z nd sh
    induction rel with
    | nil => rfl
    | cons h1 _ ih => rw [List.map_cons, List.map_cons, ih, h1.1]
  have r1 := reads_keys (h := s.heap) hp
  rw [← ev, ek] at r1
  obtain ⟨bs, rb, nb⟩ := rdVs sy I sh rr rel
  rw [← pairs_vals hp] at rb
  refine ⟨a :: [] ++ bs, .dict ho hc.1 hdt r1 rb, fun m => ?_⟩
  rcases List.mem_cons.mp m with m | m
  · subst m
    simp at hd
  · exact nb m
theorem rdVs (sy : SysD X.K) (I : Inv X pins σ H s) : ∀ {ds : List (D × D)} {kv : List (Key × V)} {vs : List (Key × Value)}, PyData.showableKv ds = true → DatKV X.K M H ds kv → KV kv vs → ∃ bs, ReadsAll s.heap (vs.map (·.2)) (ds.map (·.2)) bs ∧ sysModules ∉ bs
  | [], _, vs, sh, h, r => by
    rw [h.nil_inv] at r
    cases r
    exact ⟨[], .nil, by simp⟩
  | (k, d) :: ds, _, vs, sh, h, r => by
    obtain ⟨j, w, t, rfl, e, h1, h2⟩ := h.inv
    simp only [PyData.showableKv, Bool.and_eq_true] at sh
    cases r with
    | cons r1 r2 =>
      obtain ⟨as, ra, na⟩ := rdD sy I sh.1.2 h1 r1.2
      obtain ⟨bs, rb, nb⟩ := rdVs sy I sh.2 h2 r2
      exact ⟨as ++ bs, .cons ra rb, fun m => (List.mem_append.mp m).elim na nb⟩
end
theorem rdPk (sy : SysD X.K) (I : Inv X pins σ H s) {d : D} {v : V} {u : Value} (sh : d.showable = true) (h : Pk X.K M H d v) (r : RelV v u) : ∃ as, Reads s.heap u d as ∧ sysModules ∉ as := by
  rcases h with h | ⟨a, rfl, h⟩
  · exact rdD sy I sh h r
  · rw [show u = Value.ref a from r]
    cases d with
    | list ds =>
      obtain ⟨xs, e, rr⟩ := h
      obtain ⟨z, its, n, rv, hl, e2⟩ := rd_list I (.inl (.inl e))
      obtain ⟨as, ra, na⟩ := rdAll sy I (by simpa only [PyData.showable] using sh) rr rv
      refine ⟨a :: as, .list e2 rfl rfl ra, fun m => ?_⟩
      rcases List.mem_cons.mp m with m | m
      · exact no_sys sy I e2 rfl m.symm
      · exact na m
    | dict ds =>
      simp only [PyData.showable] at sh
      rcases h with ⟨kv, e, rr⟩ | ⟨kt, e, rr⟩
      · exact rdKV sy I (.inl e) sh rr
      · exact (big_no rr sh).elim
    | none => exact h.elim
    | bool _ => exact h.elim
    | int _ => exact h.elim
    | str _ => exact h.elim
    | tuple _ => exact h.elim
def reprG : List D → Option D
  | [d] => if d.showable = true ∧ d.depth ≤ 60 ∧ d.shown.length ≤ 1000000 then some (.str d.shown) else none
  | _ => none
theorem call_reprG {k : Nat} (ok : Ok X k) (sy : SysD X.K) : CallR X (.builtin "repr") (rC X.K reprG) := by
  intro pins s σ H xs us Q I r ⟨M, ds, d, hm, ps, e, q⟩
  unfold reprG at e
  split at e
  · rename_i d0
    obtain ⟨⟨h1, h3, h4⟩, e⟩ := some_if e
    subst e
    obtain ⟨v, rfl, p⟩ := PkAll.one (ds := []) (v := .non) ps
    obtain ⟨u, rfl, ru⟩ := Vals.one r
    obtain ⟨as, rd, na⟩ := rdPk sy I h1 p ru
    have hu := ok.hu
    have fin : ∀ h' tk t, (∀ b o, s.heap.get? b = some o → h'.get? b = some o) → EP X pins σ Q (.str d0.shown t) { s with heap := h', toks := tk } := fun h' tk t hk =>
      ⟨.str _, H, I.kept (t' := tk) hk, ⟨_, rfl⟩, q _ H Al.refl .mkStr⟩
    cases d0 with
    | none =>
      cases rd
      exact PySem.P.repr_of_none (fin _ (s.toks + 1) s.toks fun _ _ e => e)
    | bool b =>
      cases rd
      exact PySem.P.repr_of_bool (fin _ (s.toks + 1) s.toks fun _ _ e => e)
    | int i =>
      cases rd
      simp only [PyData.showable, decide_eq_true_eq] at h1
      exact PySem.P.repr_of_int h1 (fin _ (s.toks + 1) s.toks fun _ _ e => e)
    | str x =>
      cases rd
      exact PySem.P.repr_of_str (fin _ (s.toks + 1) s.toks fun _ _ e => e) (lenLine h4)
    | list xs =>
      obtain ⟨a, rfl⟩ : ∃ a, u = .ref a := by cases rd; exact ⟨_, rfl⟩
      exact repr_of_reads' rd h1 (fun _ => na) ok.gd (by omega) (fun _ _ e => e) (fun h' t tk hk => fin h' tk t hk) (lenLine h4)
    | tuple xs =>
      obtain ⟨a, rfl⟩ : ∃ a, u = .ref a := by cases rd; exact ⟨_, rfl⟩
      exact repr_of_reads' rd h1 (fun _ => na) ok.gd (by omega) (fun _ _ e => e) (fun h' t tk hk => fin h' tk t hk) (lenLine h4)
    | dict kvs =>
      obtain ⟨a, rfl⟩ : ∃ a, u = .ref a := by cases rd; exact ⟨_, rfl⟩
      exact repr_of_reads' rd h1 (fun _ => na) ok.gd (by omega) (fun _ _ e => e) (fun h' t tk hk => fin h' tk t hk) (lenLine h4)
  · cases e
end
/-! what repr can tell, by the kind -/
def shw (d : D) (k m : Nat) : Prop := d.showable = true ∧ d.depth ≤ k ∧ d.shown.length ≤ m
theorem shw_mono {d : D} {k m k' m' : Nat} (h : shw d k m) (h1 : k ≤ k') (h2 : m ≤ m') : shw d k' m' := ⟨h.1, by have := h.2.1; omega, by have := h.2.2; omega⟩
/-- all of a row: their depths, the sum of their lengths -/
def shwAll (ds : List D) (k m : Nat) : Prop := PyData.showableAll ds = true ∧ PyData.depthAll ds ≤ k ∧ ((PyData.shownAll ds).map fun t => t.length + 2).sum ≤ m
theorem shwAll_nil {k m : Nat} : shwAll [] k m := by simp [shwAll, PyData.showableAll, PyData.depthAll, PyData.shownAll]
theorem shwAll_cons {d : D} {ds : List D} {k m n : Nat} (h : shw d k m) (t : shwAll ds k n) : shwAll (d :: ds) k (m + 2 + n) := by
  obtain ⟨h1, h2, h3⟩ := h
  obtain ⟨t1, t2, t3⟩ := t
  refine ⟨by simp only [PyData.showableAll, h1, t1, Bool.and_self], by simp only [PyData.depthAll]; omega, ?_⟩
  simp only [PyData.shownAll, List.map_cons, List.sum_cons]
  omega
theorem shw_list {ds : List D} {k m : Nat} (h : shwAll ds k m) : shw (.list ds) (k + 1) (m + 5) := by
  obtain ⟨h1, h2, h3⟩ := h
  refine ⟨by simp only [PyData.showable]; exact h1, by simp only [PyData.depth]; omega, ?_⟩
  simp only [PyData.shown]
  have := from_len (PyData.shownAll ds) 0 "["
  show (textFrom 0 "[" (PyData.shownAll ds) ++ "]").length ≤ _
  rw [len_add]
  have e1 : (Str.ofString "[").length = 1 := rfl
  have e2 : (Str.ofString "]").length = 1 := rfl
  omega
section
variable [J : Nms]
end
end Dl

set_option Elab.async false
set_option linter.all false
set_option maxRecDepth 100000
set_option maxHeartbeats 400000
/-! Dl31: what is looked at behind the head: the defs and names, and further looks of our own; sys.modules among the objects. -/
namespace Dl
open PySem PySem.Spec PyProof.Rows L2
abbrev Look1 := PySem.W.Frag → Bool
def exB (ex : List Look1) (K : PySem.W.Frag) : Bool := ex.all fun f => f K
abbrev AlX : Type := He.AlD × Bool
theorem exB_at {ex : List Look1} {K : PySem.W.Frag} (h : exB ex K = true) (i : Nat) {f : Look1} (e : ex[i]? = some f := by rfl) : f K = true :=
  List.all_eq_true.mp h f (List.mem_of_getElem? e)
end Dl

set_option Elab.async false
set_option linter.all false
set_option maxRecDepth 100000
set_option maxHeartbeats 400000
/-! Dl32: texts and lists times a number; new lists by + and *. -/
namespace Dl
open PySem PySem.Spec PyProof.Rows L2 TL
variable [Reg] [TabC]
def repS (x : Str) (n : Nat) : Str := ⟨(List.replicate n (tl x)).flatten.toArray⟩
theorem sum_rep (k : Nat) : ∀ n : Nat, (List.replicate n k).sum = n * k
  | 0 => by simp
  | n + 1 => by rw [List.replicate_succ, List.sum_cons, sum_rep k n, Nat.add_mul, Nat.one_mul, Nat.add_comm]
theorem tl_repS (x : Str) (n : Nat) : tl (repS x n) = (List.replicate n (tl x)).flatten := rfl
theorem repS_len (x : Str) (n : Nat) : (repS x n).length = n * x.length := by
  rw [len_tl, tl_repS, List.length_flatten, List.map_replicate, sum_rep, ← len_tl]
def mulG (x y : D) : Option D := match x, y with
  | .str x, .int k => if x.length * k.toNat ≤ 1000000 ∧ (-1000000 ≤ k ∧ k ≤ 1000000) then some (.str (repS x k.toNat)) else none
  | .list ds, .int k => if ds.length * k.toNat ≤ 1000000 ∧ (-1000000 ≤ k ∧ k ≤ 1000000) then some (.list (List.replicate k.toNat ds).flatten) else none
  | x, y => mulF x y
section
variable {X : Cx} {W : WX}
theorem rep_vals {xs : List V} {its : List Value} (r : Vals xs its) : ∀ n : Nat, Vals (List.replicate n xs).flatten (List.replicate n its).flatten
  | 0 => .nil
  | n + 1 => by
    rw [List.replicate_succ, List.replicate_succ, List.flatten_cons, List.flatten_cons]
    exact r.append (rep_vals r n)
theorem DatAll.rep {K : PySem.W.Frag} {M : Msk} {H : Hp} {ds : List D} {vs : List V} (r : DatAll K M H ds vs) : ∀ n : Nat, DatAll K M H (List.replicate n ds).flatten (List.replicate n vs).flatten
  | 0 => .nil
  | n + 1 => by
    rw [List.replicate_succ, List.replicate_succ, List.flatten_cons, List.flatten_cons]
    exact r.append (DatAll.rep r n)
theorem rep_len {α : Type} (xs : List α) (n : Nat) : (List.replicate n xs).flatten.length = n * xs.length := by
  rw [List.length_flatten, List.map_replicate, sum_rep]
theorem fold_cat {α : Type} (a : Array α) : ∀ (m : Nat) (acc : List α), (List.replicate m a).foldl (· ++ ·) acc.toArray = (acc ++ (List.replicate m a.toList).flatten).toArray
  | 0, acc => by simp
  | m + 1, acc => by
    rw [List.replicate_succ, List.foldl_cons, show acc.toArray ++ a = (acc ++ a.toList).toArray by simp, fold_cat a m, List.replicate_succ, List.flatten_cons, List.append_assoc]
theorem op_repL {pins : List (Addr × Obj)} {s : Shared} {σ : St} {H : Hp} {l : Addr} {xs : List V} {k : Int} {t : Tok} {Q : VK} (I : Inv X pins σ H s) (hH : LsR X.K H l xs) (h0 : -1000000 ≤ k ∧ k ≤ 1000000) (hz : xs.length * k.toNat ≤ 1000000)
    (q : ∀ p, H p = none → Q (.ref p) (upd H p (.lst (List.replicate k.toNat xs).flatten))) : wpAny (model X.prog X.w) X.A (binaryOp .Mult (.ref l) (.int k t)) (EP X pins σ Q) X.xe s := by
  obtain ⟨z, its, n, r, hl, e⟩ := rd_list I hH
  have hlen : its.toArray.size * k.toNat ≤ sizeLine := lenLine (by rw [List.size_toArray, ← hl]; exact hz)
  have hcap : ¬ its.toArray.size * k.toNat > (2 ^ 63 - 1) / 8 := by
    have : (sizeLine : Nat) ≤ (2 ^ 63 - 1) / 8 := by decide
    omega
  have hfit : ¬ (!Builtin.List.listFitsIndex k) = true := by
    rw [fitsIndex_both (by omega) (by omega)]
    exact Bool.false_ne_true
  have hlong : ¬ Builtin.List.listTooLong (its.toArray.size * k.toNat) = true := by
    rw [notLongL hlen]
    exact Bool.false_ne_true
  have hnew : List.foldl (fun x1 x2 => x1 ++ x2) #[] (List.replicate (if its.toArray.isEmpty = true then 0 else k.toNat) its.toArray) = (List.replicate k.toNat its).flatten.toArray := by
    rw [show (#[] : Array Value) = ([] : List Value).toArray from rfl, fold_cat, List.nil_append]
    cases its with
    | nil => simp
    | cons a r' => rw [if_neg (by simp)]
  refine wpAny_binaryOp_repeat_ref (T := "list") (U := "int") (by decide) ⟨_, e, rfl⟩ (fun s' => typeIs_int s' k t) noFill_list_mul PySem.F.fills_int_mul PySem.F.slot_int_rmul repeat_list PySem.F.slot_int_index.lookup
    (call_meets PySem.F.slot_int_rmul (typeIs_int s k t) PySem.F.entry_int_rmul (PySem.F.args_int_rmul_2 _ _) (int___rmul___int_list k t l its.toArray n)
      ⟨e, rfl, ⟨_, e, rfl⟩, call_meets PySem.F.slot_list_mul ⟨_, e, rfl⟩ PySem.F.entry_list_mul (PySem.F.args_list_mul_2 _ _) (AutoListH.list___mul___list_int_3 l its.toArray n k t hfit hcap hlong) ⟨e, ?_⟩⟩)
  rw [hnew]
  exact ⟨.ref _, _, I.lnew (t' := s.toks) (rep_vals r k.toNat) (lenLine (by rw [rep_len, Nat.mul_comm]; exact hz)), rfl, q _ I.fresh⟩
theorem op_mulG : OpR X (binaryOp .Mult) (rD X.K mulG) := by
  intro pins s σ H x y v u Q I rx ry ⟨M, da, db, d, hm, px, py, e, q⟩
  unfold mulG at e
  split at e
  · rename_i z k
    obtain ⟨⟨h1, h2⟩, e⟩ := some_if e
    subst e
    have ex := px.str
    have ey := py.int
    subst ex ey
    obtain ⟨t, rfl⟩ := (show ∃ t, v = Value.str z t from rx)
    obtain ⟨t2, rfl⟩ := (show ∃ t, u = Value.int k t from ry)
    have fin : ∀ w : Str, w = repS z k.toNat → ∀ (tk : Nat) (t' : Tok), EP X pins σ Q (.str w t') { s with toks := tk } := fun w ew tk t' => by
      subst ew
      exact ⟨.str _, H, I.tok _, ⟨_, rfl⟩, q _ H Al.refl .mkStr⟩
    refine PySem.P.mul_str ?_ (fun a b => ?_) (fun a b => ?_) ?_
    · have a1 : ¬ k < -(2 ^ 63 : Int) := by omega
      have a2 : ¬ k ≥ 2 ^ 63 := by omega
      rw [decide_eq_false a1, decide_eq_false a2]
      rfl
    · have k1 : 0 < k := by omega
      have : ((z.length : Int) * k) ≤ 1000000 := by
        have : ((z.length * k.toNat : Nat) : Int) ≤ 1000000 := by omega
        rw [Int.natCast_mul, Int.toNat_of_nonneg (by omega)] at this
        exact this
      have : (z.length : Int) ≤ (2 ^ 63 - 1) / k := by
        apply Int.le_ediv_of_mul_le k1
        omega
      omega
    · unfold PySem.Builtin.Str.tooLong
      exact decide_eq_false (by
        have := lenLine h1
        omega)
    · split
      · rename_i a
        refine ⟨by decide, ?_⟩
        refine fin Str.empty ?_ _ _
        apply tl_inj
        rw [tl_repS, show k.toNat = 0 by omega]
        rfl
      · split
        · rename_i a b
          rw [Bool.or_eq_true] at b
          refine fin z ?_ _ _
          apply tl_inj
          rw [tl_repS]
          rcases b with b | b
          · rw [show k.toNat = 1 by simp at b; omega]
            simp
          · have : tl z = [] := List.length_eq_zero_iff.mp (by have := len_tl z; simp at b; omega)
            rw [this]
            simp
        · rename_i a b
          have ew : (⟨(List.replicate k.toNat z.cps).foldl (· ++ ·) #[]⟩ : Str) = repS z k.toNat := by
            unfold repS
            rw [show (#[] : Array Nat) = ([] : List Nat).toArray from rfl, fold_cat, List.nil_append]
          rw [ew]
          refine ⟨?_, fin _ rfl _ _⟩
          rw [repS_len, Nat.mul_comm]
          exact lenLine h1
  · rename_i ds k
    obtain ⟨⟨h1, h2⟩, e⟩ := some_if e
    subst e
    obtain ⟨a, xs, rfl, l, rr⟩ := px.list
    have ey := py.int
    subst ey
    rw [show v = Value.ref a from rx]
    obtain ⟨t2, rfl⟩ := (show ∃ t, u = Value.int k t from ry)
    exact op_repL I l h2 (by rw [rr.length]; exact h1) fun p np => q _ _ (Al.new np) (Dat.newLst hm np (rr.rep _))
  · exact op_mulD pins s σ H x y v u Q I rx ry ⟨M, da, db, d, hm, px, py, e, q⟩
end
end Dl
namespace Dl
open PySem PySem.Spec PyProof.Rows L2 TL
variable [Reg] [TabC]
section
variable {X : Cx} {W : WX}
/-- two lists, one behind the other, or a list so many times: a new list -/
def addL (x y : D) : Option D := match x, y with
  | .list a, .list b => if a.length + b.length ≤ 1000000 then some (.list (a ++ b)) else none
  | _, _ => none
def repL (x y : D) : Option D := match x, y with
  | .list ds, .int k => if ds.length * k.toNat ≤ 1000000 ∧ (-1000000 ≤ k ∧ k ≤ 1000000) then some (.list (List.replicate k.toNat ds).flatten) else none
  | _, _ => none
def rNL (K : PySem.W.Frag) (f : D → D → Option D) : R2 := fun x y H Q => ∃ (M : Msk) (da db : D) (ds : List D), Pk K M H da x ∧ Pk K M H db y ∧ f da db = some (.list ds) ∧ ∀ p xs, H p = none → DatAll K M H ds xs → Q (.ref p) (upd H p (.lst xs))
theorem op_addN : OpR X (binaryOp .Add) (rNL X.K addL) := by
  intro pins s σ H x y v u Q I rx ry ⟨M, da, db, ds, px, py, e, q⟩
  unfold addL at e
  split at e
  · obtain ⟨h1, e⟩ := some_if e
    cases e
    obtain ⟨a, xs, rfl, l, rr⟩ := px.list
    obtain ⟨b, zs, rfl, l2, rr2⟩ := py.list
    rw [show v = Value.ref a from rx, show u = Value.ref b from ry]
    exact op_catL I l l2 (lenLine (by rw [rr.length, rr2.length]; exact h1)) fun p np => q p _ np (rr.append rr2)
  · cases e
theorem op_mulN : OpR X (binaryOp .Mult) (rNL X.K repL) := by
  intro pins s σ H x y v u Q I rx ry ⟨M, da, db, ds, px, py, e, q⟩
  unfold repL at e
  split at e
  · obtain ⟨⟨h1, h2⟩, e⟩ := some_if e
    cases e
    obtain ⟨a, xs, rfl, l, rr⟩ := px.list
    have ey := py.int
    subst ey
    rw [show v = Value.ref a from rx]
    obtain ⟨t2, rfl⟩ := (show ∃ t, u = Value.int _ t from ry)
    exact op_repL I l h2 (by rw [rr.length]; exact h1) fun p np => q p _ np (rr.rep _)
  · cases e
theorem do_op {op : Operator} {f : D → D → Option D} {a b : Expr} {F G : Fe Opd} {pos : Pos} (hf : ∀ x y d, f x y = some d → ∃ ds, d = .list ds) (ho : OpR X (binaryOp op) (rNL X.K f)) (ha : DP X W a F) (hb : DP X W b G) : DO X W (.BinOp a op b pos) (fBin f F G) := by
  refine PE.imp (pe_op ho ha hb) fun σ H Q q => ?_
  obtain ⟨Mi, δ, R, q⟩ := tN_bind (P := pO X) q
  show tG X W (pO X) F σ H _
  refine ⟨Mi, δ, R, q.imp fun x H1 z => ?_⟩
  obtain ⟨Mi, o1, δ1, R1, p1, r1⟩ := z
  show tG X W (pO X) G σ H1 _
  refine ⟨Mi, δ1, R1, (RunN.bind (P := pO X) r1).imp fun y H2 z => ?_⟩
  obtain ⟨o2, δ2, g2, p2, r2⟩ := z
  have p1' := stays_O _ _ _ _ _ _ _ _ R1 g2 p1
  cases ed : ((opd δ2 o1).bind fun da => (opd δ2 o2).bind fun db => f da db) with
  | none =>
    rw [ed] at r2
    exact False.elim r2
  | some d =>
    rw [ed] at r2
    obtain ⟨da, e1, e2⟩ := Option.bind_eq_some_iff.mp ed
    obtain ⟨db, e3, e4⟩ := Option.bind_eq_some_iff.mp e2
    obtain ⟨ds, rfl⟩ := hf _ _ _ e4
    refine ⟨msk Mi σ δ2, da, db, ds, opd_pk rfl g2.rep p1' e1, opd_pk rfl g2.rep p2 e3, e4, fun p xs np dx => ?_⟩
    exact RunN.lst (δ' := δ2) g2.rep r2 dx p np
theorem addL_l {x y d : D} (h : addL x y = some d) : ∃ ds, d = .list ds := by
  unfold addL at h
  split at h
  · exact ⟨_, (some_if h).2.symm⟩
  · cases h
theorem repL_l {x y d : D} (h : repL x y = some d) : ∃ ds, d = .list ds := by
  unfold repL at h
  split at h
  · exact ⟨_, (some_if h).2.symm⟩
  · cases h
end
theorem mulG_i {a b : Int} : mulG (.int a) (.int b) = mulF (.int a) (.int b) := rfl
theorem mulG_l {x : List D} {k : Int} (h : x.length * k.toNat ≤ 1000000) (h2 : -1000000 ≤ k ∧ k ≤ 1000000) : mulG (.list x) (.int k) = some (.list (List.replicate k.toNat x).flatten) := if_pos ⟨h, h2⟩
/-! the kinds -/
section
variable [J : Nms]
end
end Dl

set_option Elab.async false
set_option linter.all false
set_option maxRecDepth 100000
set_option maxHeartbeats 0
/-! Dl33: what the program's looks at kinds tell of any datum. -/
namespace Dl
open PySem PySem.Spec PyProof.Rows L2 TL
section
variable {b : Bool} {i : Int} {s : Str} {xs : List D} {ks : List (D × D)} {d : D}
theorem isi_NoneType_int : isiB "int" .none = false := (by decide +kernel : isiT "NoneType" "int" = false)
theorem isi_NoneType_bool : isiB "bool" .none = false := (by decide +kernel : isiT "NoneType" "bool" = false)
theorem isi_NoneType_str : isiB "str" .none = false := (by decide +kernel : isiT "NoneType" "str" = false)
theorem isi_NoneType_list : isiB "list" .none = false := (by decide +kernel : isiT "NoneType" "list" = false)
theorem isi_NoneType_tuple : isiB "tuple" .none = false := (by decide +kernel : isiT "NoneType" "tuple" = false)
theorem isi_NoneType_dict : isiB "dict" .none = false := (by decide +kernel : isiT "NoneType" "dict" = false)
theorem isi_bool_int : isiB "int" (.bool b) = true := (by decide +kernel : isiT "bool" "int" = true)
theorem isi_bool_bool : isiB "bool" (.bool b) = true := (by decide +kernel : isiT "bool" "bool" = true)
theorem isi_bool_str : isiB "str" (.bool b) = false := (by decide +kernel : isiT "bool" "str" = false)
theorem isi_bool_list : isiB "list" (.bool b) = false := (by decide +kernel : isiT "bool" "list" = false)
theorem isi_bool_tuple : isiB "tuple" (.bool b) = false := (by decide +kernel : isiT "bool" "tuple" = false)
theorem isi_bool_dict : isiB "dict" (.bool b) = false := (by decide +kernel : isiT "bool" "dict" = false)
theorem isi_int_int : isiB "int" (.int i) = true := (by decide +kernel : isiT "int" "int" = true)
theorem isi_int_bool : isiB "bool" (.int i) = false := (by decide +kernel : isiT "int" "bool" = false)
theorem isi_int_str : isiB "str" (.int i) = false := (by decide +kernel : isiT "int" "str" = false)
theorem isi_int_list : isiB "list" (.int i) = false := (by decide +kernel : isiT "int" "list" = false)
theorem isi_int_tuple : isiB "tuple" (.int i) = false := (by decide +kernel : isiT "int" "tuple" = false)
theorem isi_int_dict : isiB "dict" (.int i) = false := (by decide +kernel : isiT "int" "dict" = false)
theorem isi_str_int : isiB "int" (.str s) = false := (by decide +kernel : isiT "str" "int" = false)
theorem isi_str_bool : isiB "bool" (.str s) = false := (by decide +kernel : isiT "str" "bool" = false)
theorem isi_str_str : isiB "str" (.str s) = true := (by decide +kernel : isiT "str" "str" = true)
theorem isi_str_list : isiB "list" (.str s) = false := (by decide +kernel : isiT "str" "list" = false)
theorem isi_str_tuple : isiB "tuple" (.str s) = false := (by decide +kernel : isiT "str" "tuple" = false)
theorem isi_str_dict : isiB "dict" (.str s) = false := (by decide +kernel : isiT "str" "dict" = false)
theorem isi_list_int : isiB "int" (.list xs) = false := (by decide +kernel : isiT "list" "int" = false)
theorem isi_list_bool : isiB "bool" (.list xs) = false := (by decide +kernel : isiT "list" "bool" = false)
theorem isi_list_str : isiB "str" (.list xs) = false := (by decide +kernel : isiT "list" "str" = false)
theorem isi_list_list : isiB "list" (.list xs) = true := (by decide +kernel : isiT "list" "list" = true)
theorem isi_list_tuple : isiB "tuple" (.list xs) = false := (by decide +kernel : isiT "list" "tuple" = false)
theorem isi_list_dict : isiB "dict" (.list xs) = false := (by decide +kernel : isiT "list" "dict" = false)
theorem isi_tuple_int : isiB "int" (.tuple xs) = false := (by decide +kernel : isiT "tuple" "int" = false)
theorem isi_tuple_bool : isiB "bool" (.tuple xs) = false := (by decide +kernel : isiT "tuple" "bool" = false)
theorem isi_tuple_str : isiB "str" (.tuple xs) = false := (by decide +kernel : isiT "tuple" "str" = false)
theorem isi_tuple_list : isiB "list" (.tuple xs) = false := (by decide +kernel : isiT "tuple" "list" = false)
theorem isi_tuple_tuple : isiB "tuple" (.tuple xs) = true := (by decide +kernel : isiT "tuple" "tuple" = true)
theorem isi_tuple_dict : isiB "dict" (.tuple xs) = false := (by decide +kernel : isiT "tuple" "dict" = false)
theorem isi_dict_int : isiB "int" (.dict ks) = false := (by decide +kernel : isiT "dict" "int" = false)
theorem isi_dict_bool : isiB "bool" (.dict ks) = false := (by decide +kernel : isiT "dict" "bool" = false)
theorem isi_dict_str : isiB "str" (.dict ks) = false := (by decide +kernel : isiT "dict" "str" = false)
theorem isi_dict_list : isiB "list" (.dict ks) = false := (by decide +kernel : isiT "dict" "list" = false)
theorem isi_dict_tuple : isiB "tuple" (.dict ks) = false := (by decide +kernel : isiT "dict" "tuple" = false)
theorem isi_dict_dict : isiB "dict" (.dict ks) = true := (by decide +kernel : isiT "dict" "dict" = true)
end
namespace Kd
open PySem PySem.Spec PyProof.Rows L2 TL
/-! is_whole: 0 thing -/
/-! is_word: 0 thing 1 sign -/
/-! is_between: 0 thing 1 least 2 most -/
/-! is_number: 0 thing -/
/-! is_version: 0 thing 1 part -/
/-! is_rank: 0 thing -/
/-! is_shape: 0 thing 1 least 2 most -/
theorem dt {p : Prop} [Decidable p] (h : p) : decide p = true := decide_eq_true h
theorem df {p : Prop} [Decidable p] (h : ¬ p) : decide p = false := decide_eq_false h
/-- a whole number within bounds -/
def betw (lo hi : Int) : D → Bool
  | .int i => decide (lo ≤ i) && decide (i ≤ hi)
  | _ => false
def numB : D → Bool := betw (-1000000000) 1000000000
def letB (s : Str) : Bool := (tl s).all fun c => decide (97 ≤ c) && decide (c ≤ 122)
def wordB : D → Bool
  | .str s => decide (1 ≤ s.length) && decide (s.length ≤ 8) && letB s
  | _ => false
def versB : D → Bool
  | .tuple [a, b] => betw 0 9 a && betw 0 9 b
  | _ => false
def shapeB : D → Bool
  | .tuple [.int a, .int b] => numB (.int a) && (numB (.int b) && decide (a ≤ b))
  | _ => false
def rankB : D → Bool := betw 0 9
/-- its text isn't too long to be asked for its length -/
def shortD : D → Prop
  | .str s => s.length ≤ 1000000
  | .tuple ds => ds.length ≤ 1000000
  | _ => True
end Kd
end Dl

set_option Elab.async false
set_option linter.all false
set_option maxRecDepth 100000
set_option maxHeartbeats 400000
/-! Dl34: what the kinds say of a def that draws from the bag. -/
namespace Dl
open PySem PySem.Spec PyProof.Rows L2 TL
section
variable [J : Nms]
/-! looks at kinds -/
end
/-- no named kinds -/
instance (priority := low) noNms : Nms := ⟨fun _ _ => True⟩
end Dl

set_option Elab.async false
set_option linter.all false
set_option maxRecDepth 100000
set_option maxHeartbeats 400000
/-! Dl35: word, *parts = a tuple; constant tuples of texts at the module's top. -/
namespace Dl
open PySem PySem.Spec PyProof.Rows L2 TL
variable [Reg] [TabC]
/-! ### a tuple, its head and a new list of the rest -/
section
variable {prog : Program} {w : World} {A : Around} {E : Value → Shared → Prop} {s : Shared}
theorem star2 {t : Addr} {its : Array Value} {Q : List Value → Shared → Prop} (hh : A.handled = none) (ht : IsTup s.heap t its) (h1 : 1 ≤ its.size) (hz : its.size ≤ 16384)
    (hQ : ∀ (h' : Heap) (tk : Nat), (∀ b o, s.heap.get? b = some o → h'.get? b = some o) →
      Q (its.toList.take 1 ++ [.ref h'.objs.size]) { s with heap := h'.push { cls := .type "list", data := .seq (its.toList.drop 1).toArray }, toks := tk }) :
    wpAny (model prog w) A (unpackItems (.ref t) 2 (some 1)) Q E s := by
  have ne : t ≠ s.heap.objs.size := by
    obtain ⟨o, ho, _⟩ := ht
    exact Nat.ne_of_lt (Heap.lt_size ho)
  have len1 : (its.toList.take 1).length = 1 := by
    rw [List.length_take, Array.length_toList]
    omega
  have sl := PySem.sizeLine_eq
  unfold unpackItems notIterableAtAll
  refine wpAny_bind (wpAny_bind (wpAny_specialOf ht.typeIs slot_tuple_iter.lookup (wpAny_pure ?_)))
  rw [if_neg Bool.false_ne_true]
  refine wpAny_bind (wpAny_holding (iter_tuple ht ?_))
  refine wpAny_bind (wpAny_holding (draw_tuple ne 1 0 _ _ ⟨_, Heap.get?_push_size _ rfl, rfl, rfl⟩ (ht.push _) (by omega) fun g it sb => ?_))
  have tg : IsTup g t its := (ht.push _).extBut sb.extBut ne
  obtain ⟨oi, gi, _⟩ := id it
  obtain ⟨ot, gt, _⟩ := id tg
  rw [List.drop_zero]
  show wpAny _ _ (if (its.toList.take 1).length < 1 then _ else _) _ _ _
  rw [if_neg (by rw [len1]; omega)]
  refine wpAny_bind (wpAny_holding (PySem.W.kun_collect (s := { s with heap := g }) (T := "tuple_iterator") (.inr (.inr (.inr rfl)))
    (Walks.tuple (A := A.in1) hh s.heap.objs.size t ne its) (fun j u st => st.1.typeIs) (k := 1) h1 ⟨it, tg⟩ (Heap.lt_size gi) (Heap.lt_size gt) (fun h' tk keep => ?_) (by rw [sizeLine_eq]; omega)))
  have lr : (its.toList.drop 1).length = its.size - 1 := by rw [List.length_drop, Array.length_toList]
  show wpAny _ _ (if (its.toList.drop 1).length < 0 then _ else _) _ _ _
  rw [if_neg (by omega)]
  show wpAny _ _ (newList ((its.toList.drop 1).take ((its.toList.drop 1).length - 0)) >>= fun d => pure (its.toList.take 1 ++ [d] ++ (its.toList.drop 1).drop ((its.toList.drop 1).length - 0))) _ _ _
  rw [Nat.sub_zero, List.take_length, List.drop_length]
  have kp : ∀ b o, s.heap.get? b = some o → h'.get? b = some o := fun b o e => keep b o (fun z => by
    have := Heap.lt_size e
    rw [z] at this
    exact Nat.lt_irrefl _ this) (sb.extBut b o (fun z => by
    have := Heap.lt_size e
    rw [z] at this
    exact Nat.lt_irrefl _ this) (Heap.get?_push_of_some _ e))
  refine wpAny_bind (wpAny_newObj_type (wpAny_pure ?_) ?_)
  · rw [List.append_nil]
    exact hQ h' tk kp
  · show (its.toList.drop 1).toArray.size ≤ PySem.sizeLine
    rw [List.size_toArray, lr]
    omega
end
section
variable {X : Cx} {W : WX} {pos : Pos} {e : Expr} {Fv : Fe D}
/-- a, *b = a tuple -/
def gStar (K : PySem.W.Frag) (i j : Nat) : TG := fun v σ H Q => ∃ a x xs, v = .ref a ∧ SqT K H a (x :: xs) ∧ xs.length ≤ 16000 ∧ ∀ b, H b = none → Q ((σ.set i (some x)).set j (some (.ref b))) (upd H b (.lst xs))
theorem pg_star {i j k : Nat} {x y : Str} {p q r : Pos} (hc : X.calm = true) (hN : X.N.Nodup) (hi : X.N[i]? = some x) (hj : X.N[j]? = some y) (hx : Loc X.env.scope x) (hy : Loc X.env.scope y)
    (hf : X.fn x = true ∨ X.env.scope.names.lookup x = some .local := by first | exact .inl rfl | exact .inr rfl | assumption)
    (hg : X.fn y = true ∨ X.env.scope.names.lookup y = some .local := by first | exact .inl rfl | exact .inr rfl | assumption) : PG X (.Tuple [.Name x p, .Starred (.Name y q) r] k pos) (gStar X.K i j) := by
  refine ⟨fun pins s σ H v u Q I rv hw => ?_⟩
  obtain ⟨a, x1, xs, rfl, hq, hl, hw⟩ := hw
  cases rv
  obtain ⟨its, vs, ht, hz⟩ := I.tuple hq
  cases vs with
  | cons v1 vr =>
    rename_i u1 us
    have lu := vr.length
    rw [PyProof.Rows.assign_Tuple]
    refine wpAny_bind (wpAny_standAt ?_)
    show wpAny _ _ (holding [_] (unpackItems _ 2 (some 1)) >>= _) _ _ _
    refine wpAny_bind (wpAny_holding (star2 (I.ok.hd hc) ht (by simp) (by simp; omega) fun h' tk keep => ?_))
    have I1 : Inv X pins σ H { s with heap := h', toks := tk } := I.kept keep
    have fr : H h'.objs.size = none := I1.hok.fresh (Nat.le_refl _)
    have I2 : Inv X pins σ (upd H h'.objs.size (.lst xs)) { s with heap := h'.push { cls := .type "list", data := .seq us.toArray }, toks := tk } :=
      I1.laid (t' := tk) (fun b u e => Heap.get?_push_of_some _ e) (Nat.le_refl _) ⟨by rw [PySem.sizeLine_eq]; omega, us, 0, vr, Heap.get?_push_size _ rfl⟩
    have P := pgs_cons (pg_name (pos := p) hN hi hx hf) (pgs_cons (pg_name (pos := q) hN hj hy hg) pgs_nil (by rfl)) (by rfl)
    refine P.run pins _ σ _ [x1, .ref h'.objs.size] [u1, .ref h'.objs.size] Q I2 (.cons v1 (.cons rfl .nil)) ?_
    exact ⟨_, _, rfl, _, _, rfl, rfl, hw _ fr⟩
theorem Go.list {K : PySem.W.Frag} {Mi : Msk} {σ : St} {H : Hp} {δ : DEnv} (R : Rep K Mi σ H δ) {j : Nat} {xs : List V} {ds : List D} (r : DatAll K (msk Mi σ δ) H ds xs) (h1 : j < δ.length) (h2 : isRef δ[j]? = false) {b : Addr} (n : H b = none) :
    Go K Mi Mi σ H δ (σ.set j (some (.ref b))) (upd H b (.lst xs)) (δ.set j (some (.val (.list ds)))) := by
  have g1 := Go.storeOwn R (Go.new (o := .lst xs) R n) n (d := .list ds) ⟨xs, upd_same, r.mv fun a u q e _ => ⟨fun z => by
    rcases z with (z | z) | z
    · exact q (.inl z)
    · subst z
      rw [n] at e
      cases e
    · exact q (.inr z), Al.new n a u e⟩⟩ h1 h2
  have e : (δ.set j (some (.own (.list ds))))[j]? = some (some (.own (.list ds))) := by rw [List.getElem?_set_self h1]
  have g2 := (Go.share g1.rep e).1
  rw [List.set_set] at g2
  exact g1.trans g2
/-! ### constant tuples of texts -/
/-! ### a def's call without arguments -/
variable {k : Nat} {f : Addr} {fd : FuncData} {m : Mir} {x : Str} {p : Pos}
end
end Dl

set_option Elab.async false
set_option linter.all false
set_option maxRecDepth 100000
set_option maxHeartbeats 400000
/-! Dl36: == with an empty display, whatever lies within the other. -/
namespace Dl
open PySem PySem.Spec PyProof.Rows L2 TL
variable [TabC]
section
variable {X : Cx}
def eqE (a b : D) : Option D :=
  match a, b with
  | .tuple ds, .tuple [] => some (.bool ds.isEmpty)
  | .list ds, .list [] => some (.bool ds.isEmpty)
  | a, b => eqF a b
theorem eqE_un {a b d : D} (e : eqE a b = some d) : (∃ ds, a = .tuple ds ∧ b = .tuple [] ∧ d = .bool ds.isEmpty) ∨ (∃ ds, a = .list ds ∧ b = .list [] ∧ d = .bool ds.isEmpty) ∨ eqF a b = some d := by
  unfold eqE at e
  split at e
  · cases e
    exact .inl ⟨_, rfl, rfl, rfl⟩
  · cases e
    exact .inr (.inl ⟨_, rfl, rfl, rfl⟩)
  · exact .inr (.inr e)
theorem op_eqE (hu : X.A.units + 64 < cLine) : OpR X (compareOp .Eq) (rD X.K eqE) := by
  intro pins s σ H x y v u Q I rx ry ⟨M, da, db, d, hm, px, py, e, q⟩
  have old : eqF da db = some d → _ := fun e => op_eqA hu pins s σ H x y v u Q I rx ry ⟨M, da, db, d, hm, px, py, e, q⟩
  rcases eqE_un e with ⟨ds, rfl, rfl, rfl⟩ | ⟨ds, rfl, rfl, rfl⟩ | e
  · obtain ⟨a, xs, rfl, l, r⟩ := px.tuple
    obtain ⟨b, ys, rfl, l2, r2⟩ := py.tuple
    cases rx
    cases ry
    obtain ⟨its, rv, ht, _⟩ := I.tuple l.sq
    obtain ⟨its2, rv2, ht2, _⟩ := I.tuple l2.sq
    have z2 : its2.length = 0 := by
      rw [← rv2.length, r2.length]
      rfl
    have z1 : its.length = ds.length := by rw [← rv.length, r.length]
    have z2' : its2.toArray.size = 0 := by rw [List.size_toArray]; exact z2
    have h := PySem.SeqAt.RcAt.tuples (A := X.A) (s := s) (e := fun _ => true) (l := a) (b := b) (items := its.toArray) (items2 := its2.toArray) ht ht2 (by omega) (fun j _ h2 => absurd h2 (by omega))
    have e1 : ((List.range (min its.toArray.size its2.toArray.size)).all (fun _ => true) && its.toArray.size == its2.toArray.size) = ds.isEmpty := by
      rw [z2', Nat.min_zero, List.size_toArray, z1]
      cases ds <;> rfl
    rw [e1] at h
    exact h X.prog X.w _ _ ⟨.bl _, H, I, rfl, q _ H Al.refl .mkBool⟩
  · obtain ⟨a, xs, rfl, l, r⟩ := px.list
    obtain ⟨b, ys, rfl, l2, r2⟩ := py.list
    cases rx
    cases ry
    obtain ⟨its, rv, pl, _⟩ := I.list l.sq
    obtain ⟨its2, rv2, pl2, _⟩ := I.list l2.sq
    have ht : s.heap.IsList a its.toArray := by
      obtain ⟨o, m, e, c, d, q⟩ := pl
      exact ⟨o, e, c, m, q⟩
    have ht2 : s.heap.IsList b its2.toArray := by
      obtain ⟨o, m, e, c, d, q⟩ := pl2
      exact ⟨o, e, c, m, q⟩
    have z2 : its2.length = 0 := by
      rw [← rv2.length, r2.length]
      rfl
    have z1 : its.length = ds.length := by rw [← rv.length, r.length]
    have z2' : its2.toArray.size = 0 := by rw [List.size_toArray]; exact z2
    by_cases hz : its.toArray.size = its2.toArray.size
    · have h := PySem.SeqAt.RcAt.lists (A := X.A) (s := s) (e := fun _ => true) ht ht2 hz (by omega) (fun j _ h2 => absurd h2 (by omega))
      rw [List.size_toArray, z1] at hz
      have : ds = [] := List.length_eq_zero_iff.mp (by omega)
      subst this
      have z3 : its.toArray.size = 0 := by rw [List.size_toArray]; exact z1
      rw [z3] at h
      exact h X.prog X.w _ _ ⟨.bl _, H, I, rfl, q _ H Al.refl .mkBool⟩
    · have h := PySem.SeqAt.RcAt.lists_lengths (A := X.A) (s := s) ht ht2 (by simpa using hz) (by omega)
      rw [List.size_toArray, z1] at hz
      have e1 : ds.isEmpty = false := by
        cases ds
        · exact absurd z2'.symm (by simpa using hz)
        · rfl
      rw [← e1] at h
      exact h X.prog X.w _ _ ⟨.bl _, H, I, rfl, q _ H Al.refl .mkBool⟩
  · exact old e
end
end Dl
namespace Dl
open PySem PySem.Spec PyProof.Rows L2 TL
variable [TabC]
section
variable {X : Cx}
end
end Dl

set_option Elab.async false
set_option linter.all false
set_option maxRecDepth 100000
set_option maxHeartbeats 400000
/-! Dl37: zip of two lists, of two tuples. -/
namespace Dl
open PySem PySem.Spec PyProof.Rows L2 TL
variable [Reg] [TabC]
section
variable {X : Cx} {W : WX}
theorem pair_dat {K : PySem.W.Frag} {M : Msk} {H : Hp} {T : Addr} {x y : V} {dx dy : D} (hx : Dat K M H dx x) (hy : Dat K M H dy y) (n : H T = none) (dom : ∀ a, M a → H a ≠ none) :
    Al H (upd H T (.tup [x, y])) ∧ Dat K M (upd H T (.tup [x, y])) (.tuple [dx, dy]) (.ref T) := by
  have al : Al H (upd H T (.tup [x, y])) := Al.new n
  have mv : Mv M H M (upd H T (.tup [x, y])) := fun a o na e _ => ⟨na, al a o e⟩
  refine ⟨al, ?_⟩
  simp only [Dat, DatAll]
  exact ⟨T, [x, y], rfl, .inl ⟨fun z => dom T z n, .inl upd_same⟩, x, [y], rfl, hx.mv mv, y, [], rfl, hy.mv mv, rfl⟩
end
end Dl

set_option Elab.async false
set_option linter.all false
set_option maxRecDepth 100000
set_option maxHeartbeats 400000
/-! Dl38: a, b, .., *z = a list. -/
namespace Dl
open PySem PySem.Spec PyProof.Rows L2 TL
variable [Reg] [TabC]
section
variable {prog : Program} {w : World} {A : Around} {E : Value → Shared → Prop} {s : Shared}
end
section
variable {X : Cx} {W : WX} {pos : Pos} {e : Expr} {Fv : Fe D}
theorem DatAll.tk {K : PySem.W.Frag} {M : Msk} {H : Hp} : ∀ (n : Nat) {ds : List D} {vs : List V}, DatAll K M H ds vs → DatAll K M H (ds.take n) (vs.take n) ∧ DatAll K M H (ds.drop n) (vs.drop n)
  | 0, ds, vs, h => ⟨by simp only [List.take_zero, DatAll], h⟩
  | n + 1, [], vs, h => by
    rw [h.nil_inv]
    exact ⟨by simp only [List.take_nil, DatAll], by simp only [List.drop_nil, DatAll]⟩
  | n + 1, d :: ds, vs, h => by
    obtain ⟨v, r, rfl, h1, h2⟩ := h.cons_inv
    obtain ⟨a, b⟩ := DatAll.tk n h2
    refine ⟨?_, b⟩
    simp only [List.take_succ_cons, DatAll]
    exact ⟨v, _, rfl, h1, a⟩
end
end Dl


set_option Elab.async false
set_option linter.all false
set_option maxRecDepth 100000
set_option maxHeartbeats 0
/-! Dl40: what the program's looks at rows and faces tell of any datum. -/
namespace Dl
namespace Fa
open PySem PySem.Spec PyProof.Rows L2 TL Kd
/-! are_names: 0 thing 1 name 2 one 3 other -/
/-! is_hook_row: 0 parts 1 hook 2 rank 3 befores 4 afters 5 shape 6 name -/
/-! is_kept: 0 parts -/
/-! is_small_row: 0 word 1 parts 2 good -/
/-! is_row: 0 thing 1 word 2 parts 3 good -/
/-! place_of: 0 row 1 many -/
/-! rows_of: 0 face 1 word 2 row -/
/-! is_face: 0 thing 1 places 2 offered 3 asked 4 row 5 one 6 other 7 call -/
/-- nothing in it is too long to be looked at, down to so many layers -/
def Sh : Nat → D → Prop
  | 0, d => shortD d
  | n + 1, d => shortD d ∧ ∀ ds, (d = .tuple ds ∨ d = .list ds) → ds.length ≤ 16000 ∧ ∀ p ∈ ds, Sh n p
theorem Sh.sh {n : Nat} {d : D} (h : Sh n d) : shortD d := by
  cases n with
  | zero => exact h
  | succ n => exact h.1
def ltD (a b : D) : Bool := PySem.W.dataLt a b
def riseB : List D → Bool
  | a :: b :: r => ltD a b && riseB (b :: r)
  | _ => true
def namesB : D → Bool
  | .tuple ds => decide (ds.length ≤ 4) && (ds.all wordB && riseB ds)
  | _ => false
def leB : D → D → Bool
  | .int a, .int b => decide (a ≤ b)
  | _, _ => false
def pt (ps : List D) (k : Nat) : D := ps.getD k .none
def inB (x : D) : D → Bool
  | .tuple ds => ds.any fun y => PyData.eqv y x
  | _ => false
def anyIn : D → D → Bool
  | .tuple bs, a => bs.any fun x => inB x a
  | _, _ => false
def hookB (ps : List D) : Bool := decide (ps.length = 6) && (wordB (pt ps 0) && (rankB (pt ps 1) && (namesB (pt ps 2) && (namesB (pt ps 3) && (shapeB (.tuple (ps.drop 4)) && !anyIn (pt ps 2) (pt ps 3))))))
def keptB (ps : List D) : Bool := decide (ps.length = 4) && (wordB (pt ps 0) && (shapeB (.tuple ((ps.drop 1).take 2)) && (numB (pt ps 3) && (leB (pt ps 1) (pt ps 3) && leB (pt ps 3) (pt ps 2)))))
def strIn (ws : List D) : D → Bool
  | .str s => ws.any fun y => PyData.eqv y (.str s)
  | _ => false
def rightsL : List D := [.str "emit", .str "get", .str "put", .str "read", .str "send"]
def carryL : List D := [.str "kept", .str "anew"]
def smallB (w : Str) (ps : List D) : Bool :=
  if w = "ask" then decide (ps.length = 2) && (wordB (pt ps 0) && versB (pt ps 1)) else
  if w = "on" then decide (ps.length = 2) && (wordB (pt ps 0) && rankB (pt ps 1)) else
  if w = "default" then decide (ps.length = 2) && (wordB (pt ps 0) && numB (pt ps 1)) else
  if w = "right" then (decide (ps.length = 3) && strIn rightsL (pt ps 0)) && (wordB (pt ps 1) && betw 1 9 (pt ps 2)) else
  decide (w = "steps") && (decide (ps.length = 1) && betw 1 60 (pt ps 0))
def rowB : D → Bool
  | .tuple (.str w :: ps) =>
    if w = "offer" then decide (ps.length = 4) && (wordB (pt ps 0) && (versB (pt ps 1) && shapeB (.tuple (ps.drop 2)))) else
    if w = "hook" then hookB ps else
    if w = "key" then (decide (ps.length = 5) && keptB (ps.take 4)) && strIn carryL (pt ps 4) else
    if w = "own" then keptB ps else smallB w ps
  | _ => false
/-! comprehensions over any own slots -/
theorem comp_mapB {vs : List Nat} {B : Bd} {I : Fe (List D)} {T : Fe Bool} {E : Fe D} {δ δ1 : DEnv} {ds : List D} (t : D → Bool) (f : D → D) (bd : D → DEnv) (hI : I δ = .ok ds δ1) (hc : calmAt δ1 vs = true) (hn : ds.length ≤ 1000000)
    (hb : back δ1 vs (wipeE δ1 vs) = δ1) (hl : (wipeE δ1 vs).length = δ1.length)
    (h : ∀ d ∈ ds, B d (wipeE δ1 vs) = some (bd d) ∧ wipeE (bd d) vs = wipeE δ1 vs ∧ T (bd d) = .ok (t d) (bd d) ∧ (t d = true → E (bd d) = .ok (f d) (bd d))) :
    fComp vs I B T E δ = .ok (.list ((ds.filter t).map f)) δ1 := by
  have run : ∀ (r acc : List D), (∀ d ∈ r, d ∈ ds) → compL vs B T E r acc (wipeE δ1 vs) = .ok (acc ++ (r.filter t).map f) (wipeE δ1 vs) := by
    intro r
    induction r with
    | nil =>
      intro acc _
      simp [compL]
    | cons d r ih =>
      intro acc hm
      obtain ⟨h0, h1, h2, h3⟩ := h d (hm d List.mem_cons_self)
      have ih' := fun acc => ih acc fun x m => hm x (List.mem_cons_of_mem _ m)
      unfold compL
      rw [h0]
      dsimp only
      rw [h2]
      cases ht : t d with
      | false =>
        dsimp only
        rw [h1, ih', List.filter_cons_of_neg (by simp [ht])]
      | true =>
        dsimp only
        rw [h3 ht]
        dsimp only
        rw [h1, ih', List.filter_cons_of_pos ht]
        simp
  unfold fComp
  rw [hI, bind_ok, if_pos ⟨hc, hn⟩]
  show (match compL vs B T E ds [] (wipeE δ1 vs) with
    | .ok acc δ2 => if δ2.length = δ1.length then R.ok (PyData.list acc) (back δ1 vs δ2) else .bad
    | _ => .bad) = _
  rw [run ds [] fun _ m => m]
  dsimp only
  rw [if_pos hl, hb]
  simp
theorem word_str {d : D} (h : wordB d = true) : ∃ s, d = .str s := by
  cases d with
  | str s => exact ⟨s, rfl⟩
  | _ => cases h
/-! places -/
def wordsL : List Str := ["offer", "ask", "hook", "on", "right", "default", "key", "own", "steps"]
def idxW (w : Str) : Nat := (wordsL.findIdx? fun z => decide (z = w)).getD 0
def manyW (w : Str) : Nat := if w = "right" then 2 else if w = "steps" then 0 else 1
def placeD : D → D
  | .tuple (.str w :: ps) => .tuple (.int (idxW w : Nat) :: ps.take (manyW w))
  | _ => .none
theorem eqD_s (a b : Str) : eqD (.str a) (.str b) = decide (a = b) := by
  simp only [eqD]
  by_cases h : a = b
  · rw [dt h, h]
    exact dt rfl
  · rw [df h, df fun z => h (tl_inj z)]
/-! faces -/
def headIs (w : Str) : D → Bool
  | .tuple (.str v :: _) => decide (v = w)
  | _ => false
def sec : D → D
  | .tuple (_ :: b :: _) => b
  | _ => .none
def namesOf (w : Str) (rows : List D) : List D := (rows.filter (headIs w)).map sec
def inL (x : D) (ds : List D) : Bool := ds.any fun y => PyData.eqv y x
def faceB : D → Bool
  | .tuple rows => decide (rows.length ≤ 16) && (rows.all rowB && (riseB (rows.map placeD) && ((decide ((namesOf "offer" rows).length ≤ 4) && decide ((namesOf "ask" rows).length ≤ 4)) && !(namesOf "ask" rows).any fun c => inL c (namesOf "offer" rows))))
  | _ => false
/-! places are compared -/
end Fa
end Dl

set_option Elab.async false
set_option linter.all false
set_option maxRecDepth 100000
/-! Dl41: a, b = a tuple or a list. -/
namespace Dl
open PySem PySem.Spec PyProof.Rows L2 TL
variable [TabC]
section
variable {X : Cx} {W : WX}
theorem PG.or {t : Expr} {g g' : TG} (h : PG X t g) (h' : PG X t g') : PG X t (fun v σ H Q => g v σ H Q ∨ g' v σ H Q) := ⟨fun pins s σ H x v Q I r q => q.elim (h.run pins s σ H x v Q I r) (h'.run pins s σ H x v Q I r)⟩
end
end Dl

set_option Elab.async false
set_option linter.all false
set_option maxRecDepth 100000
/-! Dl42: raise C(), try .. except C [as e], isinstance(e, C). -/
namespace Dl
open PySem PySem.Spec PyProof.Rows L2 TL
section
variable {X : Cx} {C : Addr} {bmB : List Value} {B newId initId : String}
end
/-- a class whose instances are raised and looked at -/
structure ExB (K : PySem.W.Frag) (mg : Str → Option Value) (x : Str) (C : Addr) : Prop where
  at_ : mg x = some (.ref C)
  ex : PySem.W.excIn K C He.veBase "ValueError.__new__" = true
  kp : PySem.W.keepIn K (.ref C) = true
  sub : PySem.W.subIn K (.ref C) (.type "BaseException") = some true
  ty : PySem.W.typeIn K (.ref C) = some (.type "type")
section
variable [Reg] [TabC] {X : Cx} {W Wout : WX} {Mi : Msk} {σ σ1 : St} {H H1 : Hp} {δ δ1 : DEnv} {body suite : List Stmt} {b₀ : Stmt} {pos pos' np : Pos} {B S : Fs}
/-! ### try -/
/-- which classes the clause takes -/
abbrev Sub := Str → Option Bool
def SubOk (X : Cx) (c : Value) (sub : Sub) : Prop := ∀ n b cls, sub n = some b → ClsOf X n cls → PySem.W.exmOne X.K cls c = some b
/-- nothing is raised in a suite -/
def noErr : RS → RS
  | .err _ _ => .bad
  | r => r
theorem RunS.tr {X : Cx} {pn : List (Addr × Obj)} {xe : Value → Shared → Prop} {r : RS} {E : Ends} {Mi : Msk} {σ : St} {H : Hp} {δ : DEnv} (W2 : WX) (h : RunS X W Mi σ H δ r E) (hr : ∀ x δ1, r ≠ .err x δ1) : RunS (X.tr pn xe) W2 Mi σ H δ r E := by
  cases r with
  | next δ' => exact h
  | ret c δ' =>
    cases c with
    | val d => exact h
    | own d => exact h
    | ref d => exact h
    | exc _ _ _ => exact h
  | brk δ' => exact h
  | cont δ' => exact h
  | err x δ' => exact absurd rfl (hr x δ')
  | bad => exact h
/-! ### a pinned slot -/
end
section
variable [TabC] {K : PySem.W.Frag} {rg : Reg} {Mi Mo : Msk} {σ σ' : St} {H H' : Hp} {δ δ' : DEnv} {i : Nat} {a : Addr}
end
section
variable [TabC] {rg : Reg} {X : Cx} {W : WX} {Mi : Msk} {σ σ1 : St} {H H1 : Hp} {δ δ1 : DEnv} {body suite : List Stmt} {b₀ : Stmt} {pos pos' np : Pos} {B : Fs} {S : Str → Fs} {i : Nat} {a : Addr}
end
end Dl

set_option Elab.async false
set_option linter.all false
set_option maxRecDepth 100000
/-! Dl43: one refusal's class: try, isinstance of the caught; the looks behind them. -/
namespace Dl
open PySem PySem.Spec PyProof.Rows L2 TL
/-! ### looks -/
section
variable {K : PySem.W.Frag} {h : Heap} {mg : Str → Option Value} {x y : Str} {b : Bool} {T : String}
structure IsB (K : PySem.W.Frag) (mg : Str → Option Value) (x y : Str) (b : Bool) : Prop where
  at_ : mg y = some (.ref (He.ga K y))
  kit : PySem.W.kitOne K (.ref (He.ga K x)) (.ref (He.ga K y)) = some b
end
/-! ### one class -/
def sub1 (n : Str) : Sub := fun m => if m = n then some true else none
section
variable [TabC] {rg : Reg} {X : Cx} {W : WX} {body suite : List Stmt} {b₀ : Stmt} {pos pos' np p p1 p2 : Pos} {B S : Fs} {i : Nat} {a : Addr}
end
end Dl
namespace Dl
open PySem PySem.Spec PyProof.Rows L2
theorem Ok.tr {X : Cx} {k : Nat} (o : Ok X k) {pn : List (Addr × Obj)} {xe : Value → Shared → Prop} : Ok (X.tr pn xe) k := ⟨o.1, o.2⟩
end Dl


set_option Elab.async false
set_option linter.all false
set_option maxRecDepth 100000
/-! Dl45: sorted(set(texts)). -/
namespace Dl
open PySem PySem.Spec PyProof.Rows L2
/-! ### a set by its entries, in whatever order they lie -/
def SetG (w : World) (h : Heap) (a : Addr) (L : List (Int × Value)) : Prop :=
  ∃ o es ep t, h.get? a = some o ∧ o.ExactSet ∧ o.data = .set es ep t ∧ es.toList.Perm L ∧ es.size < scanBound ∧ t.fits es.size = true ∧ Ris t.place.toList ∧ (w.params.followText "set-order" = true ∨ t.led = true)
/-- the entry of a text -/
def txE (w : World) (e : Int × Value) : Prop := ∃ k tk, e.2 = Value.str k tk ∧ e.1 = hashStr w k
def txK (e : Int × Value) : Str := match e.2 with
  | .str k _ => k
  | _ => Str.empty
/-- the set of the texts ks -/
def SetX (w : World) (h : Heap) (a : Addr) (ks : List Str) : Prop := ∃ L, SetG w h a L ∧ (∀ e ∈ L, txE w e) ∧ L.map txK = ks
section
variable {P : Program} {w : World} {h h' : Heap} {a : Addr} {ks : List Str} {L : List (Int × Value)}
theorem SetG.at (R : SetG w h a L) (k : ∀ o, h.get? a = some o → h'.get? a = some o) : SetG w h' a L := by
  obtain ⟨o, es, ep, t, ho, r⟩ := R
  exact ⟨o, es, ep, t, k o ho, r⟩
theorem SetX.at (R : SetX w h a ks) (k : ∀ o, h.get? a = some o → h'.get? a = some o) : SetX w h' a ks := by
  obtain ⟨L, g, r⟩ := R
  exact ⟨L, g.at k, r⟩
end
section
variable {P : Program} {w : World} {A : Around} {E : Value → Shared → Prop} {s : Shared} {a : Addr} {ks : List Str}
end
end Dl

set_option Elab.async false
set_option linter.all false
set_option maxRecDepth 100000
/-! Dl46: sorted(set(texts)) as a new list; f-strings of texts and ints. -/
namespace Dl
open PySem PySem.Spec PyProof.Rows L2
/-! ### lists of texts, rising -/
def leTx (a b : Str) : Bool := decide (a.cps.toList ≤ b.cps.toList)
theorem leTx_anti (a b : Str) (h1 : leTx a b = true) (h2 : leTx b a = true) : a = b := by
  unfold leTx at *
  simp only [decide_eq_true_eq] at *
  have e : a.cps.toList = b.cps.toList := List.le_antisymm h1 h2
  cases a
  cases b
  simp only at e
  rw [Array.toList_inj] at e
  rw [e]
variable [Reg] [TabC]
section
variable {X : Cx} {W : WX} {σ : St} {H : Hp}
theorem plain_strs : ∀ (ks : List Str), PyData.plainAll (ks.map PyData.str) = true
  | [] => rfl
  | k :: ks => by
    simp only [List.map_cons, PyData.plainAll, PyData.plain, Bool.true_and]
    exact plain_strs ks
/-! ### f-strings -/
/-- the parts -/
inductive DJ (X : Cx) (W : WX) : List Expr → List (Fe D) → Prop where
  | nil : DJ X W [] []
  | cons {e : Expr} {m : Fe D} {es : List Expr} {ms : List (Fe D)} (h : DE X W e m) (r : DJ X W es ms) : DJ X W (e :: es) (m :: ms)
end
end Dl

set_option Elab.async false
set_option linter.all false
set_option maxRecDepth 100000
/-! Dl47: x[a::s] of a list, a and s constants, s above nought. -/
namespace Dl
open PySem PySem.Spec PyProof.Rows L2 TL
/-- every s-th item from a on -/
def stepL {α : Type} (l : List α) (lo : Option Int) (s : Int) : List α :=
  (sliceRange (sliceBounds lo none (some s) l.length).1 (sliceBounds lo none (some s) l.length).2.1 (sliceBounds lo none (some s) l.length).2.2).filterMap (l[·]?)
theorem DatAll.pick {K : PySem.W.Frag} {M : Msk} {H : Hp} {ds : List D} {xs : List V} (h : DatAll K M H ds xs) : ∀ (is : List Nat), DatAll K M H (is.filterMap (ds[·]?)) (is.filterMap (xs[·]?))
  | [] => by
    simp only [List.filterMap_nil]
    exact .nil
  | i :: is => by
    have ih := DatAll.pick h is
    cases e : ds[i]? with
    | none =>
      have e2 : xs[i]? = none := by
        have := h.length
        rw [List.getElem?_eq_none_iff] at e ⊢
        omega
      rw [List.filterMap_cons_none e, List.filterMap_cons_none e2]
      exact ih
    | some d =>
      obtain ⟨v, e2, r⟩ := h.get e
      rw [List.filterMap_cons_some e, List.filterMap_cons_some e2]
      exact .cons r ih
theorem Vals.pick {xs : List V} {us : List Value} (h : Vals xs us) : ∀ (is : List Nat), Vals (is.filterMap (xs[·]?)) (is.filterMap (us[·]?))
  | [] => .nil
  | i :: is => by
    have ih := Vals.pick h is
    cases e : us[i]? with
    | none =>
      have e2 : xs[i]? = none := by
        have := h.length
        rw [List.getElem?_eq_none_iff] at e ⊢
        omega
      rw [List.filterMap_cons_none e, List.filterMap_cons_none e2]
      exact ih
    | some u =>
      obtain ⟨x, e2, r⟩ := vals_at h e
      rw [List.filterMap_cons_some e, List.filterMap_cons_some e2]
      exact .cons r ih
def stepG (lo : Option Int) (s : Int) : D → Option D
  | .list ds => some (.list (stepL ds lo s))
  | _ => none
variable [Reg] [TabC]
section
variable {X : Cx} {W : WX}
end
end Dl

set_option Elab.async false
set_option linter.all false
set_option maxRecDepth 100000
/-! Dl48: sets of unlike tuples of texts. -/
namespace Dl
open PySem PySem.Spec PyProof.Rows L2
section
variable {P : Program} {w : World} {K : Type} [DecidableEq K]
/-- items that show nothing -/
structure Qui (knd : KeyKind P w K) : Prop where
  cls : ∀ k v n, knd.is k v = true → ofAClassStatement n v = pure false
  hash : ∀ k v n, knd.is k v = true → ∃ c, hashByValue n v = pure c
/-- the entry of a tuple -/
def ent (knd : KeyKind P w K) (p : Addr × List K) : Int × Value := (tupleKeyHash knd p.2, .ref p.1)
/-- the set of the tuples L, in the table's order -/
structure SetU (knd : KeyKind P w K) (h : Heap) (a : Addr) (L : List (Addr × List K)) (o : Obj) (es : Array (Int × Value)) (ep : Nat) (t : SetTable) : Prop where
  ob : h.get? a = some o
  ex : o.ExactSet
  da : o.data = .set es ep t
  rows : es.toList = L.map (ent knd)
  tab : TabOk t (L.map fun p => (ent knd p).1)
  led : w.params.followText "set-order" = true ∨ t.led = true
  room : L.length * 5 < t.mask * 3
  few : L.length < 64
def SetP (knd : KeyKind P w K) (h : Heap) (a : Addr) (L : List (Addr × List K)) : Prop := ∃ o es ep t, SetU knd h a L o es ep t
theorem SetP.at {knd : KeyKind P w K} {h h' : Heap} {a : Addr} {L : List (Addr × List K)} (R : SetP knd h a L) (k : ∀ o, h.get? a = some o → h'.get? a = some o) : SetP knd h' a L := by
  obtain ⟨o, es, ep, t, r⟩ := R
  exact ⟨o, es, ep, t, { r with ob := k o r.ob }⟩
variable {knd : KeyKind P w K} {A : Around} {E : Value → Shared → Prop} {s : Shared} {a : Addr} {L : List (Addr × List K)} {o : Obj} {es : Array (Int × Value)} {ep : Nat} {t : SetTable}
theorem SetU.size (R : SetU knd s.heap a L o es ep t) : es.size = L.length := by
  have h := congrArg List.length R.rows
  rw [Array.length_toList, List.length_map] at h
  exact h
theorem SetU.fits (R : SetU knd s.heap a L o es ep t) : t.fits es.size = true := by
  have h1 := R.tab.sz
  rw [List.length_map] at h1
  have h2 := R.size
  have h3 := R.room
  unfold SetTable.fits SetTable.fill
  rw [R.tab.dm, Bool.and_eq_true, beq_iff_eq, decide_eq_true_eq]
  show t.place.size = es.size ∧ t.place.size + 0 ≤ t.mask
  omega
theorem SetU.entry (R : SetU knd s.heap a L o es ep t) {i : Nat} {p : Addr × List K} (h : L[i]? = some p) : es[i]? = some (ent knd p) := by
  rw [← Array.getElem?_toList, R.rows, List.getElem?_map, h]
  rfl
end
end Dl


set_option Elab.async false
set_option linter.all false
set_option maxRecDepth 100000
/-! Dl50: sorted(set(unlike tuples of texts)) as a new list. -/
namespace Dl
open PySem PySem.Spec PyProof.Rows L2
/-! ### the order of tuples of texts -/
abbrev PT := Addr × List Str
section
variable {P : Program} {w : World} {A : Around} {E : Value → Shared → Prop} {s : Shared} {a : Addr}
end
end Dl


set_option Elab.async false
set_option linter.all false
set_option maxRecDepth 100000
set_option maxHeartbeats 0
/-! Dl52: the law's own look at names, rows and faces tells what the program's does, of any datum. -/
namespace Dl.Lf
open PySem PySem.Spec PyProof.Rows L2 Dl TL Dl.Kd Dl.Fa
/-! zwhole: 0 zthing 1 zlow 2 zhigh -/
/-! zis_word: 0 zthing 1 zsign -/
/-! zis_version: 0 zthing -/
/-! zis_shape: 0 zthing 1 zmost -/
/-! zare_names: 0 zthing 1 zname -/
/-! zis_row: 0 zrow_here 1 zsizes 2 zword_here 3 zgood 4 znames 5 zone -/
/-! zis_face: 0 zthing 1 zorder 2 zsizes 3 zplaces 4 zcalls 5 zasks 6 zrow_here 7 zk 8 zcall -/
/-! ### names that rise -/
def strL (xs : List Str) : List D := xs.map PyData.str
theorem strL_plain (xs : List Str) : PyData.plainAll (strL xs) = true := Dl.plain_strs xs
end Dl.Lf



set_option Elab.async false
set_option linter.all false
set_option maxRecDepth 100000
/-! Dl55: comprehensions whose items are told one by one; the order of tuples. -/
namespace Dl
open PySem PySem.Spec PyProof.Rows L2
/-- one beside the other -/
inductive Beside (G : D → D → Prop) : List D → List D → Prop where
  | nil : Beside G [] []
  | cons {d y : D} {ds ys : List D} (h : G d y) (t : Beside G ds ys) : Beside G (d :: ds) (y :: ys)
theorem Beside.len {G : D → D → Prop} {ds ys : List D} (h : Beside G ds ys) : ys.length = ds.length := by
  induction h with
  | nil => rfl
  | cons _ _ ih => rw [List.length_cons, List.length_cons, ih]
theorem Beside.all {G : D → D → Prop} {Q : D → Prop} {ds ys : List D} (h : Beside G ds ys) (k : ∀ d ∈ ds, ∀ y, G d y → Q y) : ∀ y ∈ ys, Q y := by
  induction h with
  | nil => exact fun y m => by cases m
  | cons g _ ih =>
    intro y m
    rcases List.mem_cons.mp m with z | z
    · rw [z]
      exact k _ List.mem_cons_self _ g
    · exact ih (fun d md => k d (List.mem_cons_of_mem _ md)) y z
theorem Beside.map {G : D → D → Prop} {f g : D → D} {ds ys : List D} (h : Beside G ds ys) (k : ∀ d ∈ ds, ∀ y, G d y → g y = f d) : ys.map g = ds.map f := by
  induction h with
  | nil => rfl
  | cons q _ ih => rw [List.map_cons, List.map_cons, k _ List.mem_cons_self _ q, ih fun d md => k d (List.mem_cons_of_mem _ md)]
variable {δ : DEnv}
/-! ### the order of tuples -/
namespace Lo
open Dl.Kd Dl.Fa
theorem lt_diff {x y : D} {xs ys : List D} (h : PySem.W.alike x y = true) (e : PyData.eqv x y = false) : ltD (.tuple (x :: xs)) (.tuple (y :: ys)) = ltD x y := by
  unfold ltD
  rw [PySem.W.dataLt_tuple, PySem.W.dataLt_all_no h e]
theorem ev_i (i j : Int) : PyData.eqv (.int i) (.int j) = decide (i = j) := by
  simp only [PyData.eqv]
  by_cases h : i = j <;> simp [h]
theorem ev_s (i j : Str) : PyData.eqv (.str i) (.str j) = decide (i = j) := by
  simp only [PyData.eqv]
  by_cases h : i = j <;> simp [h]
theorem lt_str (x y : Str) : ltD (.str x) (.str y) = decide (x.cps.toList < y.cps.toList) := PySem.W.dataLt_str x y
theorem lt_int (i j : Int) : ltD (.int i) (.int j) = decide (i < j) := PySem.W.dataLt_int i j
/-- the first numbers decide, where they are unlike -/
theorem lt_num {i j : Int} {xs ys : List D} (h : i < j) : ltD (.tuple (.int i :: xs)) (.tuple (.int j :: ys)) = true := by
  rw [lt_diff rfl (by rw [ev_i, Kd.df (by omega)]), lt_int, Kd.dt h]
end Lo
end Dl


set_option Elab.async false
set_option linter.all false
set_option maxRecDepth 100000
set_option maxHeartbeats 0
/-! Dl57: faces that are drawn, and bent ones. -/
namespace Dl.Df
open PySem PySem.Spec PyProof.Rows L2 TL
open Kd (dt df betw numB wordB versB shapeB rankB shortD letB)
open Fa (Sh faceB rowB placeD ltD riseB namesB hookB keptB smallB inB anyIn pt leB strIn rightsL carryL headIs sec inL namesOf wordsL idxW manyW)
open Lf (strL)
/-! ztake: 0 zbag_here 1 zmany 2 zcell 3 zvalue 4 zfirst 5 zsecond -/
def F_ztake : Fs :=
  (sSeq (sIf (fB (fBin eqF (fOf (fBin itF (pkVar 0) (fOf (fC (.int 0))))) (fOf (fC (.int 0))))) (sSeq (sSet 2 (fC (.int 0)))
  (sSeq (sIf (fB (fBin ltF (fOf (fBin itF (pkVar 0) (fOf (fC (.int 2))))) (fOf (fCall lenF (lCons (fOf (fBin itF (pkVar 0) (fOf (fC (.int 3))))) lNil))))) (sSet 2 (fBin itF (fOf (fBin itF (pkVar 0) (fOf (fC (.int 3))))) (fOf (fBin itF (pkVar 0) (fOf (fC (.int 2))))))) sNext)
  (sSeq (sAugI 0 (fun a b => a + b) (fC (.int 2)) (fC (.int 1)))
  (sSeq (sIf (fB (fBin geF (pkVar 2) (fOf (fC (.int 1000000000000000000))))) (sItem 0 (fC (.int 0)) (rdVar 2)) sNext)
  (sItem 0 (fC (.int 1)) (fBin modF (fOf (fBin addF (fOf (fBin addF (fOf (fBin mulF (fOf (fBin itF (pkVar 0) (fOf (fC (.int 1))))) (fOf (fC (.int 48271))))) (fOf (fBin modF (pkVar 2) (fOf (fC (.int 2147483647))))))) (fOf (fBin mulF (fOf (fC (.int 7919))) (fOf (fBin itF (pkVar 0) (fOf (fC (.int 2))))))))) (fOf (fC (.int 2147483647))))))))) sNext)
  (sSeq (sIf (fB (fBin gtF (fOf (fBin itF (pkVar 0) (fOf (fC (.int 0))))) (fOf (fC (.int 0))))) (sSeq (sSet 3 (fBin modF (fOf (fBin itF (pkVar 0) (fOf (fC (.int 0))))) (pkVar 1)))
  (sSeq (sItem 0 (fC (.int 0)) (fBin divF (fOf (fBin itF (pkVar 0) (fOf (fC (.int 0))))) (pkVar 1)))
  (sRetV 3))) sNext)
  (sSeq (sSet 4 (fBin modF (fOf (fBin mulF (fOf (fBin addF (fOf (fBin itF (pkVar 0) (fOf (fC (.int 1))))) (fOf (fC (.int 1))))) (fOf (fC (.int 39373))))) (fOf (fC (.int 1000000007)))))
  (sSeq (sSet 5 (fBin modF (fOf (fBin mulF (fOf (fBin modF (fOf (fBin mulF (pkVar 4) (pkVar 4))) (fOf (fC (.int 998244353))))) (fOf (fC (.int 30011))))) (fOf (fC (.int 998244353)))))
  (sSeq (sIf (fB (fBin gtF (pkVar 1) (fOf (fC (.int 1000000))))) (sRet (fBin modF (fOf (fBin addF (fOf (fBin mulF (pkVar 5) (fOf (fC (.int 1000000007))))) (pkVar 4))) (pkVar 1))) sNext)
  (sRet (fBin modF (fOf (fBin divF (pkVar 5) (fOf (fC (.int 7))))) (pkVar 1))))))))
def m_ztake : Mir := mir 2 6 F_ztake
/-! zword: 0 zbag_here 1 zsome_here 2 zletters 3 zk -/
/-! znumber: 0 zbag_here 1 zsome_here -/
/-! zversion: 0 zbag_here -/
/-! zshape: 0 zbag_here 1 zone 2 zother -/
/-! zsome: 0 zbag_here 1 zmany 2 zwithout 3 zfound 4 zk 5 zword_here -/
/-! zrow: 0 zbag_here 1 zpart 2 zword_here 3 zname 4 zleast 5 zmost 6 znames 7 zboth 8 zturn 9 zfirst -/
/-! zface: 0 zbag_here 1 zpart 2 zorder 3 zmany 4 zway 5 zk 6 zat 7 zrows 8 zoffered 9 zword_here 10 zsize 11 znames 12 zrights 13 zname -/
/-! zodd_part: 0 zbag_here 1 zsome_here -/
/-! zbent_face: 0 zbag_here 1 zrows 2 zway 3 zat 4 zodd 5 zrow_here -/
theorem take_m : m_ztake = Bag.m_ztake := rfl
theorem take_e (b : Bg) (m : Int) (h0 : 0 < m) (h1 : m < 18446744073709551616) : m_ztake [.ref (bagD b), .val (.int m)] = .ok (.val (.int (takeV b m))) [some (.ref (bagD (takeB b m))), none] := by
  rw [take_m]
  exact Bag.take_e b m h0 h1
/-! few names -/
theorem ni_list {w : Str} {wo : List Str} : niF (.str w) (.list (strL wo)) = some (.bool (decide (w ∉ wo))) := by
  have e : hasF (.str w) (.list (strL wo)) = some ((strL wo).any fun y => PyData.eqv y (.str w)) := if_pos ⟨rfl, Lf.strL_plain wo, by simp [PyData.depth]⟩
  unfold niF
  rw [e]
  have a : ((strL wo).any fun y => PyData.eqv y (.str w)) = decide (w ∈ wo) := by
    clear e
    induction wo with
    | nil => rfl
    | cons x xs ih =>
      have u : ((strL (x :: xs)).any fun y => PyData.eqv y (.str w)) = (PyData.eqv (.str x) (.str w) || (strL xs).any fun y => PyData.eqv y (.str w)) := rfl
      have v : PyData.eqv (.str x) (.str w) = decide (x = w) := by
        simp only [PyData.eqv]
        by_cases h : x = w <;> simp [h]
      rw [u, v, ih]
      by_cases h : x = w
      · simp [h]
      · have h2 : ¬ w = x := fun z => h z.symm
        simp [h, h2]
  show some (PyData.bool (!_)) = _
  rw [a]
  by_cases h : w ∈ wo <;> simp [h]
/-! every second one -/
/-! ### rows that are made -/
/-! whom hook rows name -/
def els : D → List D
  | .tuple ds => ds
  | _ => []
def namesIn : D → List D
  | .tuple (_ :: _ :: _ :: b :: a :: _) => els b ++ els a
  | _ => []
/-- a right row of that word, whose place has those names -/
structure RowOk (p : D) (w : Str) (ns : List D) (row : D) : Prop where
  ok : rowB row = true
  sh : Sh 2 row
  place : placeD row = .tuple (.int (idxW w : Nat) :: ns)
  free : headIs "hook" row = true → ∀ x ∈ namesIn row, x ≠ p
  word : ∃ ps, row = .tuple (.str w :: ps)
/-! halves -/
/-! how many rows of each word -/
/-! the rows of one word -/
/-- the rows of words so far: their places rise, below the next word's -/
structure Rows (p : D) (i : Nat) (rows : List D) : Prop where
  ok : ∀ r ∈ rows, ∃ w ns, RowOk p w ns r ∧ idxW w < i
  up : (rows.map placeD).Pairwise fun a b => ltD a b = true
theorem rows_more {i : Nat} {rows got : List D} {w : Str} (R : Rows p i rows) (hw : idxW w = i) (ok : ∀ r ∈ got, ∃ ns, RowOk p w ns r) (up : (got.map placeD).Pairwise fun a b => ltD a b = true) : Rows p (i + 1) (rows ++ got) := by
  refine ⟨fun r m => ?_, ?_⟩
  · rcases List.mem_append.mp m with m | m
    · obtain ⟨v, ns, h, k⟩ := R.ok r m
      exact ⟨v, ns, h, by omega⟩
    · obtain ⟨ns, h⟩ := ok r m
      exact ⟨w, ns, h, by omega⟩
  · rw [List.map_append, List.pairwise_append]
    refine ⟨R.up, up, fun x mx y my => ?_⟩
    obtain ⟨r, mr, rfl⟩ := List.mem_map.mp mx
    obtain ⟨s, ms, rfl⟩ := List.mem_map.mp my
    obtain ⟨v, ns, h, k⟩ := R.ok r mr
    obtain ⟨ms', h'⟩ := ok s ms
    rw [h.place, h'.place]
    exact Lo.lt_num (by omega)
/-! one round -/
/-! rights -/
/-! whose names are offered, asked -/
theorem names_app (v : Str) (xs ys : List D) : Fa.namesOf v (xs ++ ys) = Fa.namesOf v xs ++ Fa.namesOf v ys := by
  unfold Fa.namesOf
  rw [List.filter_append, List.map_append]
theorem names_other {v w : Str} (h : decide (w = v) = false) {got : List D} (ok : ∀ r ∈ got, ∃ ns, RowOk p w ns r) : Fa.namesOf v got = [] := by
  have e : got.filter (headIs v) = [] := by
    rw [List.filter_eq_nil_iff]
    intro r m
    obtain ⟨ns, k⟩ := ok r m
    obtain ⟨ps, rfl⟩ := k.word
    show ¬ decide (w = v) = true
    rw [h]
    exact Bool.false_ne_true
  unfold Fa.namesOf
  rw [e]
  rfl
/-- what the loop keeps -/
structure Held (p : D) (i : Nat) (rows : List D) (off asks : List Str) : Prop where
  rws : Rows p i rows
  len : rows.length ≤ 16 * i
  offs : Fa.namesOf "offer" rows = strL off
  askd : Fa.namesOf "ask" rows = strL asks
  offl : off.length ≤ 4
  askl : asks.length ≤ 4
  apart : ∀ x ∈ asks, x ∉ off
theorem Held.plain {i : Nat} {rows got : List D} {off asks : List Str} {w : Str} (K : Held p i rows off asks) (hw : idxW w = i) (d1 : decide (w = Str.ofString "offer") = false) (d2 : decide (w = Str.ofString "ask") = false) (gl : got.length ≤ 16)
    (ok : ∀ r ∈ got, ∃ ns, RowOk p w ns r) (up : (got.map placeD).Pairwise fun a b => ltD a b = true) : Held p (i + 1) (rows ++ got) off asks where
  rws := rows_more K.rws hw ok up
  len := by
    have := K.len
    rw [List.length_append]
    omega
  offs := by rw [names_app, K.offs, names_other d1 ok, List.append_nil]
  askd := by rw [names_app, K.askd, names_other d2 ok, List.append_nil]
  offl := K.offl
  askl := K.askl
  apart := K.apart
/-! right faces -/
/-! odd parts -/
theorem sh_list {n : Nat} {ds : List D} (hl : ds.length ≤ 16000) (h : ∀ p ∈ ds, Sh n p) : Sh (n + 1) (.list ds) := ⟨trivial, fun es e => by
  rcases e with e | e
  · cases e
  · cases e
    exact ⟨hl, h⟩⟩
/-! ### short in all layers -/
def SF (d : D) : Prop := ∀ n, Sh n d
theorem sf_list {ds : List D} (hl : ds.length ≤ 16000) (h : ∀ p ∈ ds, SF p) : SF (.list ds) := fun n => by
  cases n with
  | zero => trivial
  | succ n => exact sh_list hl fun p m => h p m n
/-! ### rows as they may become: their parts -/
structure PartF (p : D) : Prop where
  sh : SF p
  sw : shw p 3 400
def RowF (n : Nat) : D → Prop
  | .tuple ps | .list ps => ps.length ≤ n ∧ ∀ p ∈ ps, PartF p
  | d => PartF d
theorem rf_mono {n m : Nat} {d : D} (h : RowF n d) (k : n ≤ m) : RowF m d := by
  cases d with
  | tuple ps => exact ⟨Nat.le_trans h.1 k, h.2⟩
  | list ps => exact ⟨Nat.le_trans h.1 k, h.2⟩
  | none => exact h
  | bool _ => exact h
  | int _ => exact h
  | str _ => exact h
  | dict _ => exact h
/-! the parts of right rows -/
theorem small_len {i : Int} (h : i.natAbs < 2 ^ 30) : (PyData.int i).shown.length ≤ 40 := by
  simp only [PyData.shown]
  rw [len_tl, tl_ofString, List.length_map]
  have nl : ∀ m : Nat, m < 2 ^ 30 → (Nat.toDigits 10 m).length ≤ 30 := fun m hm => by
    have := dig_len 30 (m + 1) m [] (by omega) hm
    unfold Nat.toDigits
    have e : ([] : List Char).length = 0 := rfl
    omega
  show (Int.repr i).toList.length ≤ 40
  unfold Int.repr
  cases i with
  | ofNat m =>
    show (Nat.repr m).toList.length ≤ _
    unfold Nat.repr
    rw [String.toList_ofList]
    have := nl m h
    omega
  | negSucc m =>
    show ("-" ++ Nat.repr (m + 1)).toList.length ≤ _
    unfold Nat.repr
    rw [String.toList_append, List.length_append]
    simp only [String.toList_ofList]
    have := nl (m + 1) h
    show 1 + (Nat.toDigits 10 (m + 1)).length ≤ 40
    omega
theorem small_good {i : Int} (h : i.natAbs < 2 ^ 30) : good (.int i) = true := by
  simp only [good, decide_eq_true_eq]
  exact Nat.lt_trans (log_lt h (by omega)) (by omega)
/-! rows that may be looked at and told -/
theorem all_shw {k s : Nat} : ∀ {l : List D} {n : Nat}, (∀ d ∈ l, shw d k s) → l.length ≤ n → shwAll l k (n * (s + 2))
  | [], _, _, _ => shwAll_nil
  | d :: l, n, h, hn => by
    cases n with
    | zero => simp at hn
    | succ n =>
      have a := shwAll_cons (h d List.mem_cons_self) (all_shw (n := n) (fun x m => h x (List.mem_cons_of_mem _ m)) (by simpa using hn))
      obtain ⟨a1, a2, a3⟩ := a
      refine ⟨a1, a2, ?_⟩
      rw [Nat.add_mul, Nat.one_mul]
      omega
/-! bent ones -/
/-- a list of things, as many as that at most -/
def Els (n m : Nat) (l : List D) : Prop := l.length ≤ m ∧ ∀ d ∈ l, RowF n d
theorem Els.take {k n : Nat} {x : List D} (hx : Els k n x) (i : Nat) : Els k (min i n) (x.take i) := ⟨by rw [List.length_take]; have := hx.1; omega, fun d h => hx.2 d (List.mem_of_mem_take h)⟩
theorem Els.drop {k n : Nat} {x : List D} (hx : Els k n x) (i : Nat) : Els k (n - i) (x.drop i) := ⟨by rw [List.length_drop]; have := hx.1; omega, fun d h => hx.2 d (List.mem_of_mem_drop h)⟩
theorem Els.one {k : Nat} {d : D} (h : RowF k d) : Els k 1 [d] := ⟨Nat.le_refl _, fun x m => by rw [List.mem_singleton.mp m]; exact h⟩
theorem Els.le {k l n m : Nat} {x : List D} (hx : Els k n x) (g : k ≤ l) (h : n ≤ m) : Els l m x := ⟨Nat.le_trans hx.1 h, fun d m => rf_mono (hx.2 d m) g⟩
end Dl.Df

set_option Elab.async false
set_option linter.all false
set_option maxRecDepth 100000
set_option maxHeartbeats 0
/-! Dl58: steps: what the program's and the law's looks tell of any datum; right ones drawn. -/
namespace Dl.St
open PySem PySem.Spec PyProof.Rows L2 TL
/-! is_whole: 0 thing -/
/-! is_word: 0 thing 1 sign -/
/-! ztake: 0 zbag_here 1 zmany 2 zcell 3 zvalue 4 zfirst 5 zsecond -/
/-! zwhole: 0 zthing 1 zlow 2 zhigh -/
/-! zis_word: 0 zthing 1 zsign -/
/-! is_between: 0 thing 1 least 2 most -/
/-! zword: 0 zbag_here 1 zsome 2 zletters 3 zk -/
/-! znumber: 0 zbag_here 1 zsome -/
/-! is_number: 0 thing -/
/-! leads_to: 0 steps 1 at 2 word 3 parts -/
/-! zstep_words: 0 zsome -/
/-! zis_step: 0 zstep 1 zword_here -/
/-! zsteps: 0 zbag_here 1 zmany 2 zfound 3 zat 4 zword_here -/
/-! zare_steps: 0 zthing 1 zat 2 zstep -/
/-! is_step: 0 thing 1 word 2 parts -/
/-! is_steps: 0 thing 1 step 2 at -/
open Kd (dt df betw numB wordB versB shapeB rankB shortD letB)
/-! the law's own reading -/
/-! a step -/
def inN (w : Str) : Bool := [PyData.str "set", .str "add", .str "times"].any fun y => PyData.eqv y (.str w)
def inW (w : Str) : Bool := [PyData.str "load", .str "keep", .str "read", .str "get", .str "put", .str "ask", .str "emit", .str "send"].any fun y => PyData.eqv y (.str w)
def inJ (w : Str) : Bool := [PyData.str "pass", .str "back"].any fun y => PyData.eqv y (.str w)
/-- right steps -/
def stepB : D → Bool
  | .tuple (.str w :: ds) => if w = "refuse" then ds.isEmpty else match ds with
    | [p] => if inN w = true then numB p else if inW w = true then wordB p else inJ w && betw 1 16 p
    | _ => false
  | _ => false
/-! steps -/
def okAt (n : Nat) (i : Nat) : D → Bool
  | .tuple [.str w, .int j] => if w = "pass" then decide ((i : Int) + 1 + j ≤ n) else if w = "back" then decide (j ≤ (i : Int)) else true
  | _ => true
def stepsB : D → Bool
  | .tuple ds => decide (ds.length ≤ 16) && (ds.all stepB && (List.range ds.length).all fun i => okAt ds.length i (ds.getD i .none))
  | _ => false
/-! the law's reading of steps -/
/-! what is drawn -/
/-! right steps -/
end Dl.St

set_option Elab.async false
set_option linter.all false
set_option maxRecDepth 100000
set_option maxHeartbeats 400000
/-! Dl59: != with a text, whatever the other is. -/
namespace Dl
open PySem PySem.Spec PyProof.Rows L2 TL
section
open Builtin
end
variable [TabC]
section
variable {X : Cx}
end
section
variable {X : Cx}
end
/-- what it tells, of any datum -/
def eqT (s : Str) : D → Bool
  | .str t => decide (t = s)
  | _ => false
end Dl

set_option Elab.async false
set_option linter.all false
set_option maxRecDepth 100000
set_option maxHeartbeats 0
/-! Dl60: is_make of any datum; the law's own look at one. -/
namespace Dl.Mk
open PySem PySem.Spec PyProof.Rows L2 TL
open Kd (dt df betw numB wordB versB shapeB rankB shortD letB)
open Fa (Sh faceB rowB placeD ltD riseB namesB hookB keptB smallB inB anyIn pt leB strIn rightsL carryL headIs sec inL namesOf wordsL idxW manyW)
open Lf (strL)
open Df (els namesIn)
open St (stepB stepsB)
/-! named_by: 0 face 1 row 2 name -/
/-! is_doing: 0 thing 1 word 2 told -/
/-! is_make: 0 thing 1 word 2 part 3 version 4 face 5 body 6 called 7 row 8 one -/
/-! zis_doing: 0 zthing -/
/-! zis_make: 0 zthing 1 znamed_here 2 zrow_here 3 zcalled 4 zgood 5 zone -/
/-! steps, by how short they are -/
/-! what is done by a row -/
def doingB : D → Bool
  | .tuple [.str w, t] => (decide (w = "steps") && stepsB t) || (decide (w = "stock") && wordB t)
  | _ => false
/-! whom hook rows name -/
def namedL (rows : List D) : List D := (rows.filter (headIs "hook")).flatMap namesIn
/-! makes -/
def callL : List D := [.str "offer", .str "hook", .str "on"]
def isCalled : D → Bool
  | .tuple (.str w :: _) => strIn callL (.str w)
  | _ => false
def bodyB (k : Nat) : D → Bool
  | .tuple bs => decide (bs.length = k) && bs.all doingB
  | _ => false
def makeB : D → Bool
  | .tuple [a, p, v, f, b] => eqT "make" a && (wordB p && (versB v && (faceB f && (!inL p (namedL (els f)) && bodyB ((els f).filter isCalled).length b))))
  | _ => false
theorem face_inv {f : D} (h : faceB f = true) : ∃ rows, f = .tuple rows ∧ rows.length ≤ 16 ∧ rows.all rowB = true := by
  cases f with
  | tuple rows =>
    have h : (decide (rows.length ≤ 16) && (rows.all rowB && _)) = true := h
    simp only [Bool.and_eq_true, decide_eq_true_eq] at h
    exact ⟨rows, rfl, h.1, h.2.1⟩
  | _ => cases h
/-! the law's own look -/
end Dl.Mk

set_option Elab.async false
set_option linter.all false
set_option maxRecDepth 100000
set_option maxHeartbeats 0
/-! Dl61: makes that are drawn are right. -/
namespace Dl.Mk
open PySem PySem.Spec PyProof.Rows L2 TL
open Kd (dt df betw numB wordB versB shapeB rankB shortD letB)
open Fa (Sh faceB rowB placeD ltD riseB namesB hookB keptB smallB inB anyIn pt leB strIn rightsL carryL headIs sec inL namesOf wordsL idxW manyW)
open Lf (strL)
open Df (els namesIn SF sf_list PartF all_shw m_ztake take_e)
open St (stepB stepsB inN inW inJ okAt)
/-! zbody: 0 zbag_here 1 zface_here 2 zfound 3 zrow_here 4 zsize -/
/-! zmake: 0 zbag_here 1 zpart 2 zface_here -/
/-! how long the texts of right things are -/
/-- a right make, by its parts -/
theorem make_inv {d : D} (h : makeB d = true) : ∃ p v rows bs, d = .tuple [.str "make", .str p, v, .tuple rows, .tuple bs] ∧ wordB (.str p) = true ∧ versB v = true ∧ faceB (.tuple rows) = true ∧ rows.length ≤ 16 ∧ rows.all rowB = true ∧ inL (.str p) (namedL rows) = false ∧
    bs.length = (rows.filter isCalled).length ∧ bs.length ≤ 16 ∧ bs.all doingB = true := by
  unfold makeB at h
  split at h
  · rename_i a p v f b
    simp only [Bool.and_eq_true] at h
    obtain ⟨h1, h2, h3, h4, h5, h6⟩ := h
    obtain ⟨rows, rfl, l16, ra⟩ := face_inv h4
    obtain ⟨s, rfl⟩ := Fa.word_str h2
    have ea : a = .str "make" := by
      cases a with
      | str t => rw [show t = "make" from of_decide_eq_true h1]
      | _ => cases h1
    subst ea
    cases b with
    | tuple bs =>
      have h6 : (decide (bs.length = (rows.filter isCalled).length) && bs.all doingB) = true := h6
      rw [Bool.and_eq_true, decide_eq_true_eq] at h6
      have cl : (rows.filter isCalled).length ≤ rows.length := List.length_filter_le _ _
      have h5 : (!inL (.str s) (namedL rows)) = true := h5
      exact ⟨s, v, rows, bs, rfl, h2, h3, h4, l16, ra, by simpa using h5, h6.1, by omega, h6.2⟩
    | _ => cases h6
  · cases h
/-! bodies that are drawn -/
/-! makes that are drawn -/
end Dl.Mk

set_option Elab.async false
set_option linter.all false
set_option maxRecDepth 100000
set_option maxHeartbeats 0
/-! Dl62: makes put otherwise. -/
namespace Dl.Mk
open PySem PySem.Spec PyProof.Rows L2 TL
open Kd (dt df betw numB wordB versB shapeB rankB shortD letB)
open Fa (Sh faceB rowB placeD ltD riseB namesB hookB keptB smallB inB anyIn pt leB strIn rightsL carryL headIs sec inL namesOf wordsL idxW manyW)
open Lf (strL)
open Df (els namesIn SF sf_list PartF RowF rf_mono all_shw m_ztake take_e Els)
open St (stepB stepsB inN inW inJ okAt)
/-! znamed: 0 zmake_here 1 zfound 2 zrow_here -/
/-! zbent_make: 0 zbag_here 1 zmake_here 2 zparts 3 zway 4 zodd 5 zbody_here 6 zat 7 znamed_here 8 zsteps_here 9 zname -/
/-! whom a make names -/
/-! makes put otherwise -/
def MkF (d : D) : Prop := SF d ∧ shw d 50 490000
def Bi (d : D) : Prop := SF d ∧ shw d 8 243100
theorem Bi.mk {d : D} (h : Bi d) : MkF d := ⟨h.1, shw_mono h.2 (by omega) (by omega)⟩
/-- what may stand in a body -/
def Dg (d : D) : Prop := SF d ∧ shw d 7 13500
def Dgs (n : Nat) (l : List D) : Prop := l.length ≤ n ∧ ∀ d ∈ l, Dg d
theorem Dgs.take {n : Nat} {x : List D} (hx : Dgs n x) (i : Nat) : Dgs (min i n) (x.take i) := ⟨by rw [List.length_take]; have := hx.1; omega, fun d h => hx.2 d (List.mem_of_mem_take h)⟩
theorem Dgs.drop {n : Nat} {x : List D} (hx : Dgs n x) (i : Nat) : Dgs (n - i) (x.drop i) := ⟨by rw [List.length_drop]; have := hx.1; omega, fun d h => hx.2 d (List.mem_of_mem_drop h)⟩
theorem Dgs.one {d : D} (h : Dg d) : Dgs 1 [d] := ⟨Nat.le_refl _, fun x m => by rw [List.mem_singleton.mp m]; exact h⟩
theorem Dgs.bl {n : Nat} {l : List D} (h : Dgs n l) (hn : n ≤ 17) : Bi (.list l) := ⟨sf_list (by have := h.1; omega) fun p m => (h.2 p m).1, shw_mono (shw_list (all_shw (fun p m => (h.2 p m).2) (Nat.le_trans h.1 hn))) (by omega) (by omega)⟩
end Dl.Mk

set_option Elab.async false
set_option linter.all false
set_option maxRecDepth 100000
set_option maxHeartbeats 2000000
/-! Dl63: an own error with one field. -/
namespace PySem
namespace AtX
open PySem.W PySem.Calls PyProof.Rows PySem.HandSPX
/-! ### the text of __init__ -/
def iA (p1 p2 : Pos) : Arguments := { posonlyargs := [], args := [{ arg := "self", annotation := none, pos := p1 }, { arg := "at", annotation := none, pos := p2 }], vararg := none, kwonlyargs := [], kw_defaults := [], kwarg := none, defaults := [] }
def iB (q1 q2 q3 q4 : Pos) : List Stmt := [.Assign [.Attribute (.Name "self" q1) "at" q2] (.Name "at" q3) q4]
def iS : Scope := { kind := .function, names := [(PySem.Str.ofString "self", .local), (PySem.Str.ofString "at", .local)], isGenerator := false, isCoroutine := false, more := [] }
/-- what the written part says of Low, at C, and of its __init__, at fI -/
structure LowTxt (K : Frag) (mg : Str → Option Value) (cn qn : Str) (C fI : Addr) : Prop where
  gC : mg cn = some (.ref C)
  cls : ∃ nm q N bs bm sn sub ab col dd k0 k1 k2 k3 k5, K.lookup C = some (excClassObj nm q C N bs bm true sn sub ab col dd k0 k1 k2 k3 k5 "ValueError.__new__") ∧ refsVE bm = true
  sa : findIn K (.ref C) "__setattr__" = some (some (.builtin "object.__setattr__"))
  ga : findIn K (.ref C) "__getattribute__" = some (some (.builtin "BaseException.__getattribute__"))
  gg : findIn K (.ref C) "__getattr__" = some none
  noN : findIn K (.ref C) "at" = some none
  iC : findIn K (.ref C) "__init__" = some (some (.ref fI))
  tC : typeIn K (.ref fI) = some (.type "function")
  kC : keepIn K (.ref C) = true
  exC : subIn K (.ref C) (.type "BaseException") = some true
  tyC : typeIn K (.ref C) = some (.type "type")
  hdC : hasDictIn K C = true
  te : exmOne K (.ref C) (.ref C) = some true
  fn : ∃ (oc : Value) (od : Option Addr) (kV doc pm : Value) (an : Option Addr) (cdv ct : Value) (osl : Array (Option Value)) (p1 p2 q1 q2 q3 q4 : Pos),
    K.lookup fI = some ⟨oc, od, .func (fnOf "__init__" qn (iA p1 p2) (iB q1 q2 q3 q4) iS .none kV doc pm an cdv ct), osl⟩ ∧ codeIn K cdv qn = true
/-- what __init__ leaves of a fresh exception at x -/
structure InitEnd (h h' : Heap) (x C dx t1 : Addr) (v : Value) : Prop where
  keep : ∀ b o, b ≠ x → h.get? b = some o → h'.get? b = some o
  obj : h'.get? x = some { cls := .ref C, dict := some dx, data := .fields #[.ref t1, .none, .none, .none, .bool false, .none] }
  dbig : h.objs.size ≤ dx
  dne : dx ≠ x
  ns : h'.Ns1 dx (fun y => if y = "at" then some v else none)
/-- a made Low -/
structure OwnMade (h h' : Heap) (e C d : Addr) (v : Value) : Prop where
  keep : ∀ b o, h.get? b = some o → h'.get? b = some o
  new : h.objs.size ≤ e
  obj : ∃ oe vs, h'.get? e = some oe ∧ oe.cls = .ref C ∧ oe.dict = some d ∧ oe.data = .fields vs ∧ vs[1]? = some .none
  dbig : h.objs.size ≤ d
  dne : d ≠ e
  ns : h'.Ns1 d (fun y => if y = "at" then some v else none)
section
variable {prog : Program} {w : World} {A : Around} {E : Value → Shared → Prop} {R : Result → Shared → Prop} {s : Shared} {K : Frag} {mg : Str → Option Value} {cn qn : Str} {C fI : Addr}
end
end AtX
end PySem
namespace L2
open PySem PySem.Spec PyProof.Rows
section
variable {X : Cx} {cn qn : Str} {C fI : Addr}
end
end L2



set_option Elab.async false
set_option linter.all false
set_option maxRecDepth 100000
set_option maxHeartbeats 2000000
/-! Dl65: raise C(e) with one field, try .. except C as n, n.at, isinstance(n, ..). -/
namespace Dl
open PySem PySem.Spec PyProof.Rows L2 TL
section
variable [Reg] [TabC] {X : Cx} {W : WX} {Mi : Msk} {σ : St} {H : Hp} {δ : DEnv}
end
/-! ### the caught one, with its dict -/
section
variable [TabC] {K : PySem.W.Frag} {rg : Reg} {Mi Mo : Msk} {σ σ' : St} {H H' : Hp} {δ δ' : DEnv}
end
section
variable [TabC] {rg : Reg} {X : Cx} {W : WX} {Mi : Msk} {σ : St} {H : Hp} {δ : DEnv} {D : Ends}
end
section
variable [TabC] {rg : Reg} {X : Cx} {W : WX} {body suite : List Stmt} {b₀ : Stmt} {pos pos' np : Pos} {B : Fs} {S : Int → Fs} {i : Nat}
/-! ### within the suite -/
variable {a : Addr} {p p1 p2 : Pos}
/-- classes that stand in a display, and whether one of them is D or above it -/
structure ClsL (X : Cx) (D : Addr) (es : List Expr) (r : Bool) : Prop where
  all : ∃ (cs : List V) (us : List Value), PA X es (fun _ H Q => Q cs H) ∧ Paired ClsV cs us ∧ PySem.W.kitAny X.K (.ref D) us = some r ∧ cs.length = es.length
end
end Dl


set_option Elab.async false
set_option linter.all false
set_option maxRecDepth 100000
set_option maxHeartbeats 2000000
/-! Dl67: comprehensions that drop some by a test of their own; sorted texts; pairs of two lists in either order. -/
namespace Dl
open PySem PySem.Spec PyProof.Rows L2 Dl.Kd Dl.Fa
variable {δ : DEnv}
theorem bName_soft {i : Nat} {δ : DEnv} {d : D} (hi : i < δ.length) (h : soft (slot δ i) = true) : bName i d δ = some (δ.set i (some (.val d))) := by
  have fr : free δ i = true := by
    unfold free
    have nr : isRef δ[i]? = false := by
      rw [slot_eq] at h
      cases q : δ[i]? with
      | none => rfl
      | some x => cases x with
        | none => rfl
        | some c =>
          rw [q] at h
          cases c with
          | ref _ => cases h
          | exc _ _ _ => cases h
          | _ => rfl
    rw [nr]
    simp [hi]
  exact if_pos fr
/-- one own slot and a test; of those that pass, each made item beside its own -/
theorem comp_pick {i : Nat} {I : Fe (List D)} {T : Fe Bool} {E : Fe D} {δ1 : DEnv} {ds : List D} (P : DEnv → Prop) (G : D → D → Prop) (q : D → Prop) (hI : I δ = .ok ds δ1) (hi : i < δ1.length) (hn : ds.length ≤ 1000000)
    (h0 : P (δ1.set i none)) (hl : ∀ δ, P δ → δ.length = δ1.length ∧ soft (slot δ i) = true)
    (h : ∀ d ∈ ds, ∀ δ, P δ → (∃ δ2, T (δ.set i (some (.val d))) = .ok false δ2 ∧ P (δ2.set i none)) ∨ ∃ δ2 y δ3, T (δ.set i (some (.val d))) = .ok true δ2 ∧ E δ2 = .ok y δ3 ∧ q d ∧ G d y ∧ P (δ3.set i none)) (hc : calmAt δ1 [i] = true) :
    ∃ sub acc δ2, fComp [i] I (bName i) T E δ = .ok (.list acc) (δ2.set i (slot δ1 i)) ∧ sub.Sublist ds ∧ (∀ d ∈ sub, q d) ∧ Beside G sub acc ∧ P δ2 := by
  have one : ∀ (r acc : List D) (δ : DEnv), (∀ d ∈ r, d ∈ ds) → P δ → ∃ sub got δ2, compL [i] (bName i) T E r acc δ = .ok (acc ++ got) δ2 ∧ sub.Sublist r ∧ (∀ d ∈ sub, q d) ∧ Beside G sub got ∧ P δ2 := by
    intro r
    induction r with
    | nil => exact fun acc δ _ hp => ⟨[], [], δ, by rw [List.append_nil]; rfl, .slnil, fun d m => (by cases m), .nil, hp⟩
    | cons d r ih =>
      intro acc δ hm hp
      obtain ⟨e1, e2⟩ := hl δ hp
      have eb : bName i d δ = some (δ.set i (some (.val d))) := bName_soft (by omega) e2
      rcases h d (hm d List.mem_cons_self) δ hp with ⟨δ2, et, p2⟩ | ⟨δ2, y, δ3, et, ey, qd, gy, p3⟩
      · obtain ⟨sub, got, δ4, er, sb, sq, ga, p4⟩ := ih acc (δ2.set i none) (fun x m => hm x (List.mem_cons_of_mem _ m)) p2
        refine ⟨sub, got, δ4, ?_, sb.cons _, sq, ga, p4⟩
        unfold compL
        rw [eb]
        dsimp only
        rw [et]
        exact er
      · obtain ⟨sub, got, δ4, er, sb, sq, ga, p4⟩ := ih (acc ++ [y]) (δ3.set i none) (fun x m => hm x (List.mem_cons_of_mem _ m)) p3
        refine ⟨d :: sub, y :: got, δ4, ?_, sb.cons_cons _, fun x m => ?_, .cons gy ga, p4⟩
        · unfold compL
          rw [eb]
          dsimp only
          rw [et]
          dsimp only
          rw [ey]
          have ap : acc ++ y :: got = acc ++ [y] ++ got := by rw [List.append_assoc]; rfl
          rw [ap]
          exact er
        · rcases List.mem_cons.mp m with rfl | m
          · exact qd
          · exact sq x m
  obtain ⟨sub, acc, δ2, er, sb, sq, ga, p2⟩ := one ds [] (δ1.set i none) (fun _ m => m) h0
  refine ⟨sub, acc, δ2, ?_, sb, sq, ga, p2⟩
  have sl : δ1[i]? = some (slot δ1 i) := by
    rw [slot_eq, List.getElem?_eq_getElem hi]
    rfl
  unfold fComp
  rw [hI, bind_ok, if_pos ⟨hc, hn⟩]
  show (match compL [i] (bName i) T E ds [] (δ1.set i none) with
    | .ok acc δ2 => if δ2.length = δ1.length then R.ok (PyData.list acc) (back δ1 [i] δ2) else .bad
    | _ => .bad) = _
  rw [er, List.nil_append]
  dsimp only
  rw [if_pos (hl δ2 p2).1]
  unfold back
  rw [sl]
  rfl
/-! ### texts, sorted -/
abbrev leS : Str → Str → Bool := PySem.W.dataLe false PyData.str
theorem sortD_str (xs : List Str) : sortD (xs.map .str) = (xs.mergeSort leS).map .str := by
  unfold sortD
  exact (List.map_mergeSort (r := leS) (s := PySem.W.dataLe false fun d => d) (f := PyData.str) (l := xs) (fun a _ b _ => rfl)).symm
theorem strs_plain : ∀ xs : List Str, PyData.plainAll (xs.map .str) = true
  | [] => rfl
  | x :: xs => by
    rw [List.map_cons]
    show (PyData.plain (.str x) && PyData.plainAll (xs.map .str)) = true
    rw [strs_plain xs]
    rfl
theorem strs_depth : ∀ xs : List Str, PyData.depthAll (xs.map .str) ≤ 1
  | [] => by
    show 0 ≤ 1
    omega
  | x :: xs => by
    rw [List.map_cons]
    have h := strs_depth xs
    show max (PyData.depth (.str x)) (PyData.depthAll (xs.map .str)) ≤ 1
    have z : PyData.depth (.str x) = 0 := rfl
    omega
theorem strs_ok (xs : List Str) : okSort (xs.map .str) = true := by
  unfold okSort
  have a1 : ((xs.map PyData.str).all fun x => (xs.map PyData.str).all fun y => PySem.W.alike x y) = true := List.all_eq_true.mpr fun x mx => List.all_eq_true.mpr fun y my => by
    obtain ⟨a, _, rfl⟩ := List.mem_map.mp mx
    obtain ⟨b, _, rfl⟩ := List.mem_map.mp my
    rfl
  have a2 : (xs.map PyData.str).all noTup = true := List.all_eq_true.mpr fun x mx => by
    obtain ⟨a, _, rfl⟩ := List.mem_map.mp mx
    rfl
  have d := strs_depth xs
  rw [strs_plain, a1, a2, Bool.or_true, Kd.dt (by omega)]
  rfl
theorem sort_strs (xs : List Str) : sortF [.list (xs.map .str)] = some (.list ((xs.mergeSort leS).map .str)) := by
  rw [← sortD_str]
  exact if_pos (strs_ok xs)
/-! ### pairs of two lists, in either order -/
end Dl


set_option Elab.async false
set_option linter.all false
set_option maxRecDepth 100000
set_option maxHeartbeats 2000000
/-! Dl69: constant dicts of texts at the module's top; their .get. -/
namespace Dl
open PySem PySem.Spec PyProof.Rows L2
/-! ### looks at the head, tables too -/
abbrev Keys1 := Option (List (Option (Str × Int)))
def tabsY (ts : List (Str × List Str)) (K : PySem.W.Frag) : List Keys1 := ts.map fun t => He.dicW K (He.ga K t.1)
def keysY (ts : List (Str × List Str)) (w : World) : List Keys1 := ts.map fun t => some (He.keysIn w.params t.2)
abbrev AlY : Type := AlX × List Keys1
/-! ### a constant dict of texts stands at a name -/
/-! ### X.get(k) -/
section
variable {X : Cx} {x : Str} {kvs : List (Str × Str)} {e : Expr} {te : TE} {p apos cpos : Pos}
variable [Reg] [TabC] {W : WX}
end
end Dl




set_option Elab.async false
set_option linter.all false
set_option maxRecDepth 100000
set_option maxHeartbeats 2000000
/-! Dl73: enumerate of a list. -/
namespace Dl
open PySem PySem.Spec PyProof.Rows L2 TL
variable [Reg] [TabC]
section
variable {X : Cx} {W : WX}
/-- each item behind its place -/
def placedD (i : Nat) : List D → List D
  | [] => []
  | d :: ds => .tuple [.int (i : Nat), d] :: placedD (i + 1) ds
theorem placed_len (ds : List D) : ∀ i, (placedD i ds).length = ds.length := by
  induction ds with
  | nil => exact fun _ => rfl
  | cons d ds ih => exact fun i => by rw [placedD, List.length_cons, List.length_cons, ih]
theorem placed_get : ∀ {ds : List D} {i k : Nat} {d : D}, (placedD i ds)[k]? = some d → ∃ y, ds[k]? = some y ∧ d = .tuple [.int ((i + k : Nat) : Int), y]
  | [], _, _, _, h => by simp [placedD] at h
  | x :: ds, i, 0, d, h => by
    simp only [placedD, List.getElem?_cons_zero, Option.some.injEq] at h
    exact ⟨x, rfl, by rw [← h]; rfl⟩
  | x :: ds, i, k + 1, d, h => by
    simp only [placedD, List.getElem?_cons_succ] at h
    obtain ⟨y, e1, e2⟩ := placed_get h
    refine ⟨y, by rw [List.getElem?_cons_succ]; exact e1, ?_⟩
    rw [e2, show i + 1 + k = i + (k + 1) by omega]
def enum1 : List D → DEnv → R (List D)
  | [.list ds], δ => .ok (placedD 0 ds) δ
  | _, _ => .bad
def iEnumL (F : Fe (List D)) : Fe (List D) := fun δ => (F δ).bind enum1
theorem enum1_un {ls : List D} {δ : DEnv} : (∃ ds, ls = [.list ds] ∧ enum1 ls δ = .ok (placedD 0 ds) δ) ∨ enum1 ls δ = .bad := by
  unfold enum1
  split
  · exact .inl ⟨_, rfl, rfl⟩
  · exact .inr rfl
theorem ite_R {M : Msk} {H : Hp} {a : Addr} {xs : List V} {ds : List D} (l : LstAt X.K M H a xs) (r : DatAll X.K M H ds xs) : ItR X M H (Ite X.K a) (placedD 0 ds) := fun M' H' m dom => by
  have l' := (l.mv m).sq
  have r' := r.mv m
  refine ⟨fun i d e => ?_, xs, l', by rw [placed_len, r.length]; exact Nat.le_refl _⟩
  obtain ⟨y, e1, rfl⟩ := placed_get e
  obtain ⟨x, ex, hx⟩ := r'.get e1
  refine ⟨⟨xs, x, l', ex⟩, fun v H'' z => ?_⟩
  obtain ⟨T, x0, rfl, n, rfl, q1⟩ := z
  have z1 := q1 xs l'
  rw [ex] at z1
  cases z1
  rw [Nat.zero_add]
  exact pair_dat .mkInt hx n dom
theorem di_enum {e : Expr} {F : Fe (List D)} {p pos tpos : Pos} {elts : List Expr} {kk : Nat} (hg : Gl X "enumerate") (hm : X.mg "enumerate" = none) (ha : DA X W [e] F)
    (hs : starEach [e] X.env = [(false, eval e X.env)] := by rfl) : DI X W (.Tuple elts kk tpos) (.Call (.Name "enumerate" p) [e] [] pos) (iEnumL F) := by
  refine PI.imp (pi_enum hg hm ha hs) fun σ H Q q => ?_
  obtain ⟨Mi, δ, R, q⟩ := tG_bind (P := pA X) q
  refine ⟨Mi, δ, R, q.imp fun vs H1 ⟨Mi, ls, δ1, R1, p, r⟩ => ?_⟩
  have p' : DatAll X.K (msk Mi σ δ1) H1 ls vs := p
  rcases enum1_un (ls := ls) (δ := δ1) with ⟨ds, rfl, e⟩ | e
  · rw [e] at r
    simp only [DatAll, Dat] at p'
    obtain ⟨v, r0, rfl, ⟨a, us, rfl, l, ra⟩, rfl⟩ := p'
    exact ⟨a, us, rfl, l.sq, r _ H1 (Go.refl R1) (ite_R l ra)⟩
  · rw [e] at r
    exact r.elim
end
end Dl



set_option Elab.async false
set_option linter.all false
set_option maxRecDepth 100000
set_option maxHeartbeats 0
/-! Dl76: makes as texts: the program's writing of any make, and the law's. -/
namespace Dl.Tx
open PySem PySem.Spec PyProof.Rows L2 TL
open Kd (dt df betw numB wordB versB shapeB rankB letB)
open Fa (faceB rowB namesB hookB keptB smallB riseB pt leB strIn rightsL carryL wordsL comp_mapB)
open Lf (strL)
open Df (els)
open St (stepB stepsB inN inW inJ)
open Mk (doingB makeB)
/-! show_version: 0 version 1 major 2 minor -/
/-! form_of: 0 word 1 of_step 2 form -/
/-! show_part: 0 sort 1 part -/
/-! show_row: 0 row 1 of_step 2 word 3 parts 4 sort 5 part -/
/-! show_doing: 0 doing 1 word 2 told 3 step -/
/-! show_make: 0 make 1 word 2 part 3 version 4 face 5 body 6 head 7 doing 8 row -/
/-! zfigures: 0 znumber_here 1 zfound 2 zleft -/
/-! zpart_text: 0 zpart -/
/-! zmake_text: 0 zmake_here 1 zchunks 2 zrow_here 3 zfound 4 zword_here 5 ztold 6 zstep 7 zpart 8 zwords -/
/-! ### figures -/
/-! ### versions -/
/-! ### the parts of a row, by their sorts -/
inductive Part (c : Nat) : D → Prop where
  | w {s : Str} (e : c = 119) (h : wordB (.str s) = true) : Part c (.str s)
  | n {i : Int} (e : c = 110) (h0 : -1000000000 ≤ i) (h1 : i ≤ 1000000000) : Part c (.int i)
  | v (i j : Fin 10) (e : c = 118) : Part c (.tuple [.int (i.1 : Int), .int (j.1 : Int)])
  | p {ws : List Str} (e : c = 112) (h : ∀ w ∈ ws, wordB (.str w) = true) (hl : ws.length ≤ 4) : Part c (.tuple (strL ws))
/-! ### forms -/
/-! ### the program's writing -/
/-! ### what is done -/
/-! ### makes -/
/-! ### the law's writing -/
end Dl.Tx



set_option Elab.async false
set_option linter.all false
set_option maxRecDepth 100000
set_option maxHeartbeats 0
/-! Dl79: which rows of two makes clash. -/
namespace Dl.Cl
open PySem PySem.Spec PyProof.Rows L2 TL
open Kd (dt df wordB letB)
open Fa (rowB inL headIs ltD placeD idxW manyW riseB faceB namesB anyIn)
open Lf (strL)
open Mk (makeB)
/-! is_ahead: 0 row 1 part 2 other_row 3 other -/
/-! row_clashes: 0 row 1 part 2 other_row 3 other -/
/-! rows_that_clash: 0 one 1 other 2 row 3 beside -/
/-! clashes: 0 one 1 other -/
/-! which rows clash -/
def mkD (p : Str) (v : D) (rows bs : List D) : D := .tuple [.str "make", .str p, v, .tuple rows, .tuple bs]
/-! at most one beside each -/
theorem lt_tr {a b c : D} (h1 : ltD a b = true) (h2 : ltD b c = true) : ltD a c = true := lex_trans _ _ _ h1 h2
theorem rise_pw : ∀ {ds : List D}, riseB ds = true → ds.Pairwise fun a b => ltD a b = true
  | [], _ => .nil
  | [a], _ => List.pairwise_singleton _ _
  | a :: b :: r, h => by
    have h : (ltD a b && riseB (b :: r)) = true := h
    rw [Bool.and_eq_true] at h
    have ih := rise_pw h.2
    refine List.pairwise_cons.mpr ⟨fun x m => ?_, ih⟩
    rcases List.mem_cons.mp m with rfl | m
    · exact h.1
    · exact lt_tr h.1 ((List.pairwise_cons.mp ih).1 x m)
structure Mt (p : Str) (v : D) (rows bs : List D) : Prop where
  ok : makeB (mkD p v rows bs) = true
  word : wordB (.str p) = true
  len : rows.length ≤ 16
  all : rows.all rowB = true
  up : (rows.map placeD).Pairwise fun a b => ltD a b = true
theorem mt_of {d : D} (h : makeB d = true) : ∃ p v rows bs, d = mkD p v rows bs ∧ Mt p v rows bs := by
  obtain ⟨p, v, rows, bs, rfl, wp, _, wf, rl, ra, _⟩ := Mk.make_inv h
  have wf : (decide (rows.length ≤ 16) && (rows.all rowB && (riseB (rows.map placeD) && _))) = true := wf
  simp only [Bool.and_eq_true] at wf
  exact ⟨p, v, rows, bs, rfl, h, wp, rl, ra, rise_pw wf.2.2.1⟩
section
variable {p q : Str} {v v2 : D} {rows rows2 bs bs2 : List D} (M : Mt p v rows bs) (N : Mt q v2 rows2 bs2)
include M N
end
end Dl.Cl

set_option Elab.async false
set_option linter.all false
set_option maxRecDepth 100000
set_option maxHeartbeats 2000000
/-! Dl80: data of numbers, texts, tuples and lists alone: alike is the same; enumerated lists by their places; parts of faces that are faces; makes without a row, with another body, another version. -/
namespace Dl.Sd
open PySem PySem.Spec PyProof.Rows L2 TL
open Kd (dt df wordB versB)
open Fa (rowB faceB inL headIs ltD placeD riseB namesOf sec)
open Mk (makeB doingB isCalled namedL bodyB)
open Df (els namesIn)
open Lf (strL)
open Cl (mkD)
/-! ### a list by its places -/
/-! ### faces with fewer rows -/
structure Ok (p : Str) (v : D) (rows bs : List D) : Prop where
  ok : makeB (mkD p v rows bs) = true
  word : wordB (.str p) = true
  vers : versB v = true
  face : faceB (.tuple rows) = true
  len : rows.length ≤ 16
  all : rows.all rowB = true
  named : inL (.str p) (namedL rows) = false
  called : bs.length = (rows.filter isCalled).length
  blen : bs.length ≤ 16
  does : bs.all doingB = true
theorem Ok.mt {p : Str} {v : D} {rows bs : List D} (M : Ok p v rows bs) : Cl.Mt p v rows bs := by
  obtain ⟨p', v', rows', bs', e, m⟩ := Cl.mt_of M.ok
  injection e with e
  injection e with _ e
  injection e with e1 e
  injection e with e2 e
  injection e with e3 e
  injection e with e4 _
  injection e1 with e1
  injection e3 with e3
  injection e4 with e4
  subst e1 e2 e3 e4
  exact m
/-! ### texts apart -/
/-! ### the pairs without a row -/
end Dl.Sd

set_option Elab.async false
set_option linter.all false
set_option maxRecDepth 100000
set_option maxHeartbeats 2000000
/-! Dl81: GHOST SLOTS: slots of a frame that no name of the program shows. They hold what a function value has captured;
several slots are lent to a call at once. -/
namespace Dl
open PySem PySem.Spec PyProof.Rows L2
/-- the values that stand there -/
def gvals (σ : St) : List Nat → Option (List V)
  | [] => some []
  | j :: js => match σ[j]?, gvals σ js with
    | some (some v), some vs => some (v :: vs)
    | _, _ => none
section
variable [Reg] [TabC] {K : PySem.W.Frag} {Mi Mo : Msk} {σ : St} {H H' : Hp} {δ : DEnv} {js : List Nat} {gs : List V} {gcs : List Cell}
end
end Dl

set_option Elab.async false
set_option linter.all false
set_option maxRecDepth 100000
set_option maxHeartbeats 2000000
/-! Dl82: defs that are handed a function value, nested defs: their contracts by mirrors of parameters and of what is captured (ghosts). -/
namespace Dl
open PySem PySem.Spec PyProof.Rows L2
/-- parameters, captured things -> what comes back, the captured things then -/
abbrev MirH := List Cell → List Cell → RF
/-! ### two rows in one frame -/
def lay {α : Type} (xs : List α) (a : Nat) (ys : List α) (b : Nat) : List (Option α) := xs.map some ++ (List.replicate a none ++ (ys.map some ++ List.replicate b none))
section
variable {α : Type} {xs ys : List α} {a b : Nat}
end
/-! ### what a call promises -/
def PArg (K : PySem.W.Frag) (Mi : Msk) (H : Hp) (fv : V) : Cell → V → Prop
  | .val d, v => Dat K Mi H d v
  | .exc _ _ x, v => v = fv ∧ x.cls ≠ ""
  | _, _ => False
def endG [TabC] (K : PySem.W.Frag) (mg : Str → Option Value) (Mi : Msk) (gs : List V) (H : Hp) (gcs : List Cell) (Q : VK) (E : XK) : RF → Prop
  | .ok (.val d) o => ∀ v H', Go0 K Mi Mi (gs.map some) H (gcs.map some) (gs.map some) H' o → Dat K Mi H' d v → Q v H'
  | .ok _ _ => False
  | .err x o => ∀ cls dd H', ClsM mg x.cls cls → Go0 K Mi Mi (gs.map some) H (gcs.map some) (gs.map some) H' o → ExcD K Mi H' dd x → E cls dd H'
  | .bad => False
def spG [TabC] (K : PySem.W.Frag) (mg : Str → Option Value) (m : MirH) (fv : V) (ob : List (Addr × HO)) (gs : List V) : Sp := fun vs H Q E => ∃ (Mi : Msk) (cs gcs : List Cell), cs.length = vs.length ∧ gcs.length = gs.length ∧
  (∀ (k : Nat) (c : Cell) (v : V), cs[k]? = some c → vs[k]? = some v → PArg K Mi H fv c v) ∧ Rep0 K Mi (gs.map some) H (gcs.map some) ∧ (∀ c ∈ gcs, c.isArg = true) ∧ (∀ p ∈ ob, NT p.2 ∧ ¬ Mi p.1 ∧ H p.1 = some p.2) ∧ endG K mg Mi gs H gcs Q E (m cs gcs)
section
variable [TabC] {K : PySem.W.Frag} {mg : Str → Option Value} {Mi Mo : Msk} {H H' : Hp} {gs vs : List V} {cs gcs gds : List Cell} {fv : V} {ob : List (Addr × HO)} {a b : Nat}
end
end Dl

set_option Elab.async false
set_option linter.all false
set_option maxRecDepth 100000
set_option maxHeartbeats 2000000
/-! Dl83: the contracts by a body: nested defs (NokG), defs that are handed a function (FnH). -/
namespace Dl
open PySem PySem.Spec PyProof.Rows L2
open NdefX (NF FnO CellsAt NScope)
open LamX (CodeO)
abbrev obF (g : Addr) (F : NF) : List (Addr × HO) := [(g, FnO g F), (F.c, CodeO F.c F.qual)]
section
variable [TabC]
/-- a nested def, by its mirror -/
structure NokG (P : Program) (w : World) (K : PySem.W.Frag) (mg : Str → Option Value) (base : Heap) (k : Nat) (g : Addr) (F : NF) (ps fr : List Str) (m : MirH) : Prop where
  len : ∀ cs gcs, m cs gcs ≠ .bad → cs.length = ps.length
  run : ∀ (A : Around) (outer : List Env) (s : Shared) (H : Hp) (us : List Value) (vs gs : List V) (Q : VK) (E : XK),
    Room k A → A.guards = some [] → Env0 P w K mg base A outer s H →
    H g = some (FnO g F) → H F.c = some (CodeO F.c F.qual) → CellsAt F.cl fr (gs.map some) s.heap H → Vals vs us →
    spG K mg m .non [] gs vs H Q E →
    codeAny (model P w) A (.call (.ref g) ⟨us, []⟩) (CR (L2.CX P w) outer P w H s Q E) s
theorem spG_len {K : PySem.W.Frag} {mg : Str → Option Value} {m : MirH} {fv : V} {ob : List (Addr × HO)} {n : Nat} (hl : ∀ cs gcs, m cs gcs ≠ .bad → cs.length = n) {vs gs : List V} {H : Hp} {Q : VK} {E : XK} (h : spG K mg m fv ob gs vs H Q E) : vs.length = n := by
  obtain ⟨Mi, cs, gcs, e, _, _, _, _, _, h⟩ := h
  rw [← e]
  refine hl cs gcs fun z => ?_
  rw [z] at h
  exact h
end
section
variable [TabC] {P : Program} {w : World} {K : PySem.W.Frag} {mg : Str → Option Value} {base : Heap}
theorem NokG.mono {j k : Nat} {g : Addr} {F : NF} {ps fr : List Str} {m : MirH} (o : NokG P w K mg base j g F ps fr m) (h : j ≤ k) : NokG P w K mg base k g F ps fr m :=
  ⟨o.len, fun A outer s H us vs gs Q E hr => o.run A outer s H us vs gs Q E (hr.mono h)⟩
/-- a def that is handed a function (mirror md, captured names fr) as its parameter ip -/
structure FnH (P : Program) (w : World) (K : PySem.W.Frag) (mg : Str → Option Value) (base : Heap) (k : Nat) (f : Addr) (fd : FuncData) (ps : List Str) (kd : Nat) (psd fr : List Str) (md m : MirH) : Prop where
  bnd : Binds K fd ps []
  kp : PySem.W.keepIn K (.ref f) = true
  len : ∀ cs gcs, m cs gcs ≠ .bad → cs.length = ps.length
  run : ∀ (A : Around) (outer : List PySem.Env) (s : Shared) (H : Hp) (args : Args) (us : List Value) (vs gs : List V) (g : Addr) (F : NF) (Q : VK) (E : XK),
    Room k A → A.guards = some [] → Env0 P w K mg base A outer s H → BindsTo s fd args (ps.zip us) → Vals vs us →
    NokG P w K mg base kd g F psd fr md → CellsAt F.cl fr (gs.map some) s.heap H → (∀ y c, F.cl.lookup y = some c → c ∉ frs outer) →
    spG K mg m (.ref g) (obF g F) gs vs H Q E → codeAny (model P w) A (.call (.ref f) args) (CR (L2.CX P w) outer P w H s Q E) s
end
end Dl

set_option Elab.async false
set_option linter.all false
set_option maxRecDepth 100000
set_option maxHeartbeats 2000000
/-! Dl84: calls of a function value (a pinned slot), calls that hand a function value on. -/
namespace Dl
open PySem PySem.Spec PyProof.Rows L2
open NdefX (NF FnO CellsAt)
open LamX (CodeO)
section
variable [Reg] [TabC] {X : Cx} {W : WX} {Mi : Msk} {σ : St} {H H1 : Hp} {δ δ1 : DEnv} {js : List Nat} {gs : List V} {gcs : List Cell}
/-- what is known of the function value at the slot i; js: where what it has captured stands -/
structure CloX (X : Cx) (i : Nat) (js : List Nat) (kd : Nat) (psd fr : List Str) (md : MirH) (g : Addr) (F : NF) : Prop where
  nok : NokG X.prog X.w X.K X.mg X.base kd g F psd fr md
  pin : (i, V.ref g) ∈ Reg.pins
  obj : ∀ p ∈ obF g F, p ∈ Reg.objs
  nd : js.Nodup
  cells : ∀ (pins : List (Addr × Obj)) (σ : St) (H : Hp) (s : Shared) (Mi : Msk) (δ : DEnv) (gs : List V), Inv X pins σ H s → Rep X.K Mi σ H δ → gvals σ js = some gs → CellsAt F.cl fr (gs.map some) s.heap H
  far : ∀ (pins : List (Addr × Obj)) (σ : St) (H : Hp) (s : Shared), Inv X pins σ H s → ∀ y c, F.cl.lookup y = some c → c ∉ frs X.stack
variable {i kd k : Nat} {psd fr : List Str} {md m : MirH} {g f : Addr} {fd : FuncData} {ps : List Str} {F : NF} {x : Str} {p pos : Pos} {e : Expr} {es : List Expr}
/-! ### a function value among the arguments -/
theorem FnH.call {ta : TA} (Fn : FnH X.prog X.w X.K X.mg X.base k f fd ps kd psd fr md m) (C : CloX X i js kd psd fr md g F) (ok : Ok X k) (tk : Takes X W) (hg : Gl X x) (hm : X.mg x = some (.ref f)) (ha : PA X (e :: es) ta)
    (hdb : (x == ("__debug__" : Str)) = false := by decide +kernel) (he : starEach (e :: es) X.env = (false, eval e X.env) :: starEach es X.env := by rfl) (hpl : (backTo pos (starEach es X.env)).any (·.1) = false := by rfl) :
    PE X (.Call (.Name x p) (e :: es) [] pos) fun σ H Q => ta σ H fun vs H1 => ∃ (Mi : Msk) (δ : DEnv) (gs : List V), Rep X.K Mi σ H1 δ ∧ gvals σ js = some gs ∧ spG X.K X.mg m (.ref g) (obF g F) gs vs H1 Q (WE W σ) := by
  refine ⟨fun pins s σ H Q I h => ?_⟩
  refine wpAny_Call_Name_kw (ld_glob I hg hm ?_ hdb)
  refine PySem.W.callWith_K (h₀ := X.base) I.ok.mod.kin Fn.kp (thn (ha.run pos pins s σ H _ I h) fun us s1 z => ?_) he hpl
  obtain ⟨vs, H1, I1, r, Mi, δ, gs, R, hgv, q⟩ := z
  refine ⟨I1.kIn, ?_⟩
  have hl : us.length = ps.length := by rw [← r.length]; exact spG_len Fn.len q
  have b := Fn.bnd s1 us I1.kIn (by rw [List.append_nil]; exact hl)
  rw [List.append_nil] at b
  have cells := C.cells pins σ H1 s1 Mi δ gs I1 R hgv
  refine wpAny_call (codeAny_mono (Fn.run X.A X.stack s1 H1 ⟨us, []⟩ us vs gs g F Q (WE W σ) ok.room ok.gd I1.env0 b r C.nok cells (C.far pins σ H1 s1 I1) q) fun rr s' hq => ?_)
  cases rr with
  | error e => exact passAt tk σ pins H1 s1 e s' I1 hq
  | ok fl =>
    cases fl with
    | ret u => exact I1.after hq
    | next => exact False.elim hq
    | brk => exact False.elim hq
    | cont => exact False.elim hq
end
end Dl


set_option Elab.async false
set_option linter.all false
set_option maxRecDepth 100000
set_option maxHeartbeats 2000000
/-! Dl86: «def f(..): ..» within a def's body. -/
namespace Dl
open PySem PySem.Spec PyProof.Rows L2
open NdefX (NF FnO CellsAt NScope Caps)
open LamX (CodeO TabB ExtN)
/-- data move where only things that are no data are out of bounds -/
def NX (o : HO) : Prop := ∀ φ, o ≠ .ext φ
theorem nx_frz {o : Obj} {u : HO} : NX (.frz o u) := fun _ h => by cases h
def Mvd (M : Msk) (H : Hp) (M' : Msk) : Prop := ∀ a o, ¬ M a → H a = some o → NX o → ¬ M' a
section
variable {K : PySem.W.Frag} {M M' : Msk} {H : Hp}
theorem Mvd.rd (m : Mvd M H M') {a : Addr} {u : HO} (nx : NX u) (n : ¬ M a) (r : Rd H a u) : ¬ M' a := by
  rcases r with r | ⟨o, r⟩
  · exact m a _ n r nx
  · exact m a _ n r nx_frz
end
section
variable [TabC] {K : PySem.W.Frag} {rg : Reg} {Mi Mi' Mo Mo' : Msk} {σ σ' : St} {H H' : Hp} {δ δ' : DEnv} {i : Nat} {a c : Addr} {φ : Heap → Prop} {ob : List (Addr × HO)}
/-- the mask without one thing that is no datum -/
abbrev less (Mi : Msk) (c : Addr) : Msk := fun a => Mi a ∧ a ≠ c
end
section
variable [TabC] {rg : Reg} {X : Cx} {E : XK} {Mi : Msk} {σ : St} {H : Hp} {δ : DEnv} {i : Nat} {a c : Addr} {φ : Heap → Prop} {ob : List (Addr × HO)}
end
end Dl

set_option Elab.async false
set_option linter.all false
set_option maxRecDepth 100000
set_option maxHeartbeats 2000000
/-! Dl87: closures for gen.py: what a def that makes or is handed a function knows of it. -/
namespace Dl
open PySem PySem.Spec PyProof.Rows L2
open NdefX (NF FnO CellsAt NScope Caps)
open LamX (CodeO TabB ExtN)
section
variable [TabC] {rg : Reg} {X : Cx} {i kd : Nat} {js : List Nat} {psd fr : List Str} {md : MirH} {g : Addr} {F : NF}
/-- .. within a try -/
theorem CloX.tr {pn : List (Addr × Obj)} {xe : Value → Shared → Prop} (C : CloX X i js kd psd fr md g F) (hp : X.pn = []) : CloX (X.tr pn xe) i js kd psd fr md g F := by
  have un : ∀ {pins : List (Addr × Obj)} {σ : St} {H : Hp} {s : Shared}, Inv (X.tr pn xe) pins σ H s → Inv X [] σ H s := fun I =>
    ⟨I.ok.ofTry, I.os, I.bare, I.base, I.loc, I.cell, I.free, I.freeC, fun p hq => by
      rw [hp] at hq
      exact (List.not_mem_nil hq).elim, I.hok, I.len⟩
  exact @CloX.mk rg _ _ _ _ _ _ _ _ _ _ C.nok C.pin C.obj C.nd (fun pins σ H s Mi δ gs I R hv => C.cells [] σ H s Mi δ gs (un I) R hv) fun pins σ H s I => C.far [] σ H s (un I)
end
section
variable [TabC] {P : Program} {w : World} {K : PySem.W.Frag} {mg : Str → Option Value} {base : Heap}
/-- the def that makes a function: its code object's address is known -/
theorem fnG_ofT {x qual : Str} {st : Stmt} {f c : Addr} {fd : FuncData} {N ps : List Str} {k np n : Nat} {F : Fs} (Fn : Fun K x qual st f fd) (hcode : fd.code = .ref c) (S : FnScope N ps (defScope st)) (hb : Binds K fd ps [])
    (hnp : np = ps.length) (hn : n = N.length)
    (hbody : ∀ (A : Around) (outer : List PySem.Env) (s : Shared) (H : Hp) (E : XK), Ok (cxOf (L2.CX P w) P w K mg base N qual (defScope st) f (.ref c) A outer s H E) k →
      DSs (cxOf (L2.CX P w) P w K mg base N qual (defScope st) f (.ref c) A outer s H E) (fun cls d _ H' => E cls d H') (defBody st) F) :
    FnG P w K mg base (k + 1) f fd ps (mir np n F) := by
  have hlen : ∀ cells, mir np n F cells ≠ .bad → cells.length = ps.length := fun cells h => by
    unfold mir at h
    split at h
    · rename_i e
      rw [e, hnp]
    · exact absurd rfl h
  refine ⟨hb, Fn.kp, hlen, fun A outer s H args us vs Q E hr hg e0 hbd r hsp => ?_⟩
  have hl := spM_len hlen hsp
  obtain ⟨oc, od, kV, doc, pm, an, cdv, ct, osl, rfl, lk, hcd⟩ := Fn.ex
  obtain rfl : cdv = .ref c := hcode
  have KX : K.In s.heap := e0.mod.kin.keeps fun b o e => (e0.bs b o e).1
  have lim : s.heap.NoLimit := e0.mod.nolimit.keeps fun b o e => (e0.bs b o e).1
  have kinds : ∀ y ∈ ps.zip us, (defScope st).names.lookup y.1 = some .local ∨ ((defScope st).names.lookup y.1 = some .cell ∧ ((cellsFrom (s.heap.objs.size + 1) (defScope st).names []).lookup y.1).isSome = true) := fun y hy =>
    (S.par y.1 (List.of_mem_zip (a := y.1) (b := y.2) hy).1).elim .inl fun q => .inr ⟨q, PySem.W.cellsFrom_some _ _ _ (.inl q)⟩
  refine codeAny_call_function hr.depth (KX _ _ lk) rfl S.co S.gen rfl (PySem.W.codeRec_of KX hcd) (hbd _ _ _ _ ?_)
  refine wpAny_newFunctionEnv_cells S.kind kinds fun env he s1 x1 => ?_
  subst he
  refine ⟨lim.keeps x1.toInCall.keep, codeAny_func ?_⟩
  have ok : Ok (cxOf (L2.CX P w) P w K mg base N qual (defScope st) f (.ref c) A outer s H E) k := ⟨hr.deeper _, hg⟩
  have body := hbody A outer s H E ok
  have I : Inv (cxOf (L2.CX P w) P w K mg base N qual (defScope st) f (.ref c) A outer s H E) [] (L2.start N vs) H s1 := inv_start S hr.hd e0 hl r x1
  obtain ⟨Mi, cells, hc, Rp, ha, q⟩ := hsp
  have hv : vs.length ≤ N.length := by
    have := congrArg List.length S.pre
    rw [List.length_take] at this
    omega
  have start_ : tS (cxOf (L2.CX P w) P w K mg base N qual (defScope st) f (.ref c) A outer s H E) (fun cls d _ H' => E cls d H') F { nx := fun _ H' => Q .non H', rt := Q } (L2.start N vs) H := by
    refine ⟨Mi, _, Rep.start hc hn hv Rp ha, ?_⟩
    by_cases hc2 : cells.length = np
    · have em : mir np n F cells = runBody n F cells := by
        unfold mir
        rw [if_pos hc2]
      rw [em] at q
      unfold runBody at q
      cases ef : F (cells.map some ++ List.replicate (n - cells.length) none) with
      | next δ' =>
        rw [ef] at q
        exact fun σ' H' g => q .non H' (Go.leave hc hn hv ha g).1 Dat.mkNone
      | ret c δ' =>
        rw [ef] at q
        cases c with
        | val d => exact fun v σ' H' g dv => q v H' (Go.leave hc hn hv ha g).1 (Dat.mv (Go.leave hc hn hv ha g).2 dv)
        | own d =>
          refine fun a σ' H' g fr c => q a H' (Go.leave hc hn hv ha g).1 ?_ (c.mv (Go.leave hc hn hv ha g).2 rfl)
          rcases fr with ⟨i, d', e, s2⟩ | fr
          · obtain ⟨h1, h2⟩ := get_pad e
            rw [get_start (by omega)] at s2
            exact absurd ⟨i, d', h2, s2⟩ (noOwn ha a)
          · exact fr
        | ref d => exact q
        | exc _ _ _ => exact q
      | err x δ' =>
        rw [ef] at q
        exact fun cls dd σ' H' hcls g ex => q cls dd H' hcls (Go.leave hc hn hv ha g).1 (ex.mv (Go.leave hc hn hv ha g).2)
      | brk δ' =>
        rw [ef] at q
        exact q.elim
      | cont δ' =>
        rw [ef] at q
        exact q.elim
      | bad =>
        rw [ef] at q
        exact q.elim
    · have em : mir np n F cells = .bad := by
        unfold mir
        rw [if_neg hc2]
      rw [em] at q
      exact q.elim
  have fin : ∀ {σ' : St} {H' : Hp} {v : V} {u : Value} {s' : Shared}, Inv (cxOf (L2.CX P w) P w K mg base N qual (defScope st) f (.ref c) A outer s H E) [] σ' H' s' → RelV v u → Q v H' → CE outer P w H s Q u s' :=
    fun {σ' H' v u s'} J rv qq => ⟨v, H', J.os, J.bare, J.base, J.hok, rv, qq⟩
  refine wpAny_mono (body.run [] s1 _ H _ I start_) (fun fl s' hs => ?_) fun _ _ hs => hs
  cases fl with
  | ret u =>
    obtain ⟨_, _, _, J, rv, qq⟩ := hs
    exact fin J rv qq
  | next =>
    obtain ⟨_, _, J, qq⟩ := hs
    exact fin (v := V.non) (u := Value.none) J rfl qq
  | brk =>
    obtain ⟨_, _, _, qq⟩ := hs
    exact False.elim qq
  | cont =>
    obtain ⟨_, _, _, qq⟩ := hs
    exact False.elim qq
end
end Dl

set_option Elab.async false
set_option linter.all false
set_option maxRecDepth 100000
set_option maxHeartbeats 2000000
/-! Dl88: a law whose def makes a function: the end with a table of code objects; the head's looks with it. -/
namespace Dl
open PySem PySem.Spec PyProof.Rows L2
open LamX (TabB)
/-- nothing in the heap but the script and the table -/
theorem loneT {K : PySem.W.Frag} {H : Hp} {a Pt : Addr} {nm : Nat → Nat → Str} {ns : List Int} (hP : H Pt = some (.tbl #[])) (h : (H a = none ∧ KwL K a (ns.map V.int)) ∨ ∃ o, H a = some (.frz o (.lst (ns.map V.int)))) :
    @Rep0 ⟨[(Pt, nm)]⟩ K (fun _ => False) ([V.ref a].map some) H ([Cell.val (scriptD ns)].map some) := by
  have nob : ∀ b, ¬ Owned ([V.ref a].map some) ([Cell.val (scriptD ns)].map some) b := fun b ⟨i, d, e, _⟩ => by
    match i, e with
    | 0, e => cases e
    | i + 1, e => cases e
  have one : ∀ (i : Nat) (c : Cell), ([Cell.val (scriptD ns)].map some : DEnv)[i]? = some (some c) → i = 0 ∧ c = .val (scriptD ns) := fun i c e => by
    match i, e with
    | 0, e =>
      cases e
      exact ⟨rfl, rfl⟩
    | i + 1, e => cases e
  refine @r0_mk ⟨[(Pt, nm)]⟩ _ _ _ _ _ (Nat.le_refl _) (fun i c e => ?_) (fun i j c c' b n e _ m _ _ _ => ?_) (fun b z => z.elim) fun p hp => ?_
  · obtain ⟨rfl, rfl⟩ := one i c e
    refine ⟨.ref a, rfl, ?_⟩
    show Dat K _ H (.list (ns.map .int)) (.ref a)
    simp only [Dat]
    refine ⟨a, ns.map V.int, rfl, ?_, DatAll.ints ns⟩
    rcases h with ⟨_, h⟩ | ⟨o, h⟩
    · exact .inr h
    · exact .inl ⟨fun z => z.elim id (nob a), .inr ⟨o, h⟩⟩
  · obtain ⟨_, rfl⟩ := one i c e
    cases m
  · rw [List.mem_singleton.mp hp]
    exact NdefX.TabN.nil hP
/-- the call of the law, in any state behind the head -/
theorem law_runT {P : Program} {w : World} {K : PySem.W.Frag} {mg mb : Str → Option Value} {k : Nat} {fa a c Pt : Addr} {nm : Nat → Nat → Str} {fd : FuncData} {x : Str} {m : Mir} {t : Shared} {vs : List Value} {ns : List Int}
    (kin : K.In t.heap) (gl : t.heap.Ns mainGlobals mg) (bl : t.heap.Ns builtinsNs mb) (bt : ∀ y : Str, y ≠ "__name__" → mb y = bootBuiltins y) (nl : t.heap.NoLimit) (ng : t.gens = #[])
    (hT : t.heap.get? Pt = some { cls := .none, data := .fields #[] }) (nT : K.lookup Pt = none) (hd : PySem.W.CodeHd t.heap c Pt)
    (hbm : ∃ (bm : Addr) (ob : Obj), mg "__builtins__" = some (.ref bm) ∧ bm ≠ builtinsNs ∧ t.heap.get? bm = some ob ∧ ob.cls = .type "module" ∧ ob.dict = some builtinsNs ∧ ob.data = .plain)
    (at_ : t.heap.get? a = some { cls := .type "list", data := .seq vs.toArray }) (ni : IntsAre vs ns) (le : ns.length ≤ sizeLine) (room : Room k callerA)
    (F : ∀ base : Heap, K.In base → base.Ns mainGlobals mg → TabB base mg c Pt → @FnG ⟨[(Pt, nm)]⟩ P w K mg base k fa fd [x] m) (bd : ∀ (s : Shared) (u : Value), BindsTo s fd ⟨[u], []⟩ [(x, u)])
    (true_ : m [.val (scriptD ns)] = .ok (.val (.bool true)) [none]) :
    codeAny (model P w) callerA (.call (.ref fa) ⟨[.ref a], []⟩) (fun r u => r = .ok (.ret (.bool true)) ∧ OldK t.heap u.heap ∧ u.os = t.os ∧ AllBare u.gens) t := by
  have rel := vals_ints ni
  have aP : a ≠ Pt := fun z => by
    rw [z, hT] at at_
    have q : Data.fields #[] = Data.seq vs.toArray _ := congrArg Obj.data (Option.some.inj at_)
    cases q
  obtain ⟨H, hH, hP, hS, hOk, hNK⟩ : ∃ H : Hp, (∀ b, b ≠ a → b ≠ Pt → H b = none) ∧ H Pt = some (.tbl #[]) ∧ ((H a = none ∧ KwL K a (ns.map V.int)) ∨ ∃ o, H a = some (.frz o (.lst (ns.map V.int)))) ∧ HOk P w H t.heap ∧ (H a ≠ none → K.lookup a = none) := by
    cases lk : K.lookup a with
    | none =>
      refine ⟨fun b => if b = a then some (.frz { cls := .type "list", data := .seq vs.toArray } (.lst (ns.map V.int))) else if b = Pt then some (.tbl #[]) else none, fun b n n2 => (if_neg n).trans (if_neg n2), (if_neg (Ne.symm aP)).trans (if_pos rfl), .inr ⟨_, if_pos rfl⟩, fun b u z => ?_, fun _ => rfl⟩
      by_cases e : b = a
      · have z2 := (if_pos e).symm.trans z
        cases z2
        rw [e]
        exact ⟨at_, by simpa using le, vs, _, rel, at_⟩
      · have z2 := (if_neg e).symm.trans z
        by_cases e2 : b = Pt
        · have z3 := (if_pos e2).symm.trans z2
          cases z3
          rw [e2]
          exact hT
        · have z3 := (if_neg e2).symm.trans z2
          cases z3
    | some o =>
      have same := (kin a o lk).symm.trans at_
      cases same
      refine ⟨fun b => if b = Pt then some (.tbl #[]) else none, fun b _ n2 => if_neg n2, if_pos rfl, .inl ⟨if_neg aP, vs, _, lk, by simpa using le, rel⟩, fun b u z => ?_, fun z => absurd (if_neg aP) z⟩
      by_cases e2 : b = Pt
      · have z3 := (if_pos e2).symm.trans z
        cases z3
        rw [e2]
        exact hT
      · have z3 := (if_neg e2).symm.trans z
        cases z3
  have free_of : ∀ {b : Addr} {o : Obj}, K.lookup b = some o → H b = none := fun {b o} e => by
    by_cases q : b = a
    · by_cases z : H b = none
      · exact z
      · rw [q] at z e
        rw [hNK z] at e
        cases e
    · by_cases q2 : b = Pt
      · rw [q2, nT] at e
        cases e
      · exact hH b q q2
  have free_d : ∀ {b : Addr} {o : Obj}, t.heap.get? b = some o → (∀ u n, o.data ≠ .seq u n) → o.data ≠ .fields #[] → H b = none := fun {b o} e n1 n2 => by
    by_cases q : b = a
    · rw [q, at_] at e
      cases e
      exact absurd rfl (n1 _ _)
    · by_cases q2 : b = Pt
      · rw [q2, hT] at e
        cases e
        exact absurd rfl n2
      · exact hH b q q2
  have free_ns : ∀ {b : Addr} {f : Str → Option Value}, t.heap.Ns b f → (hidT t.heap H).Ns b f := fun {b f} ⟨o, es, ep, e, d, r⟩ => by
    refine ⟨o, es, ep, hidT_get e (free_d e (fun u n z => ?_) fun z => ?_), d, r⟩
    · rw [d] at z
      cases z
    · rw [d] at z
      cases z
  have kin2 : K.In (hidT t.heap H) := fun b o e => hidT_get (kin b o e) (free_of e)
  obtain ⟨mc, nl1, nl2⟩ := nl
  have tb : TabB (hidT t.heap H) mg c Pt := by
    refine ⟨?_, ?_, fun z => ?_⟩
    · obtain ⟨o, us, file, tf, flags, tg, inF, text, tt, e1, r1, r2, r3, r4, r5, r6, r7, r8, hne⟩ := hd
      refine ⟨o, us, file, tf, flags, tg, inF, text, tt, hidT_get e1 (free_d e1 (fun u n z => ?_) fun z => ?_), r1, r2, r3, r4, r5, r6, r7, r8, hne⟩
      · rw [r2] at z
        cases z
      · rw [r2] at z
        cases z
        simp at r3
    · obtain ⟨bm, ob, b1, b2, b3, b4, b5, b6⟩ := hbm
      have nG : bm ≠ mainGlobals := fun q => by
        obtain ⟨o, es, ep, e, hd, _⟩ := gl
        rw [q, e] at b3
        cases b3
        rw [hd] at b6
        cases b6
      have nP : bm ≠ Pt := fun q => by
        rw [q, hT] at b3
        cases b3
        cases b6
      refine ⟨bm, ob, b1, b2, nG, nP, hidT_get b3 (free_d b3 (fun u n z => ?_) fun z => ?_), b4, b5, b6⟩
      · rw [b6] at z
        cases z
      · rw [b6] at z
        cases z
    · obtain ⟨o, es, ep, e, hd, _⟩ := gl
      rw [z, hT] at e
      cases e
      cases hd
  have env : Env0 P w K mg (hidT t.heap H) callerA [] t H :=
    { frames := rfl, mod := ⟨kin2, free_ns gl, ⟨mb, free_ns bl, bt⟩, mc, free_ns nl1, nl2⟩, bs := fun b o e => of_hidT e,
      bsz := Nat.le_of_eq (hidT_size _ _), funs := trivial, frf := (fun b z => absurd z (List.not_mem_nil)), hok := hOk, bare := .of_eq ng }
  have Rp := loneT (K := K) (nm := nm) hP hS
  have told : @spM ⟨[(Pt, nm)]⟩ K mg m [.ref a] H (fun v _ => v = .bl true) (fun _ _ _ => False) := by
    refine ⟨fun _ => False, [.val (scriptD ns)], rfl, Rp, fun c z => ?_, ?_⟩
    · cases z with
      | head => rfl
      | tail _ z => cases z
    · rw [true_]
      intro v H' _ hd
      simpa only [Dat] using hd
  have run := @FnG.run ⟨[(Pt, nm)]⟩ _ _ _ _ _ _ _ _ _ _ (F _ kin2 (free_ns gl) tb) callerA [] t H ⟨[.ref a], []⟩ [.ref a] [.ref a] _ _ room rfl env (bd t (.ref a)) (.cons rfl .nil) told
  refine codeAny_mono run fun r u z => ?_
  match r, z with
  | .error e, z => exact (noExc z).elim
  | .ok .next, z => exact z.elim
  | .ok .brk, z => exact z.elim
  | .ok .cont, z => exact z.elim
  | .ok (.ret y), ⟨v, H', os, bare, un, ok', rv, (q : v = .bl true)⟩ =>
    rw [q] at rv
    obtain rfl : y = Value.bool true := rv
    have key : ∀ b o, b ≠ Pt → t.heap.get? b = some o → u.heap.get? b = some o := fun b o nb e => by
      by_cases n : H b = none
      · exact un.keep b o e n (fun z => by cases z) (fun z => by cases z)
      · have q2 : b = a := by
          by_cases q2 : b = a
          · exact q2
          · exact absurd (hH b q2 nb) n
        subst q2
        rcases hS with ⟨z, _⟩ | ⟨ob, z⟩
        · exact absurd z n
        · obtain ⟨e1, _⟩ := hOk b _ z
          obtain ⟨e2, _⟩ := ok' b _ (un.frzs b ob _ z)
          have same := e.symm.trans e1
          cases same
          exact e2
    obtain ⟨more, hm⟩ : ∃ more : Array Value, u.heap.get? Pt = some { cls := .none, data := .fields more } := by
      obtain ⟨more, z⟩ := un.tbls Pt #[] hP
      exact ⟨_, ok' Pt _ z⟩
    refine ⟨rfl, ⟨fun b o e => ?_, fun b o e => ?_⟩, os, bare⟩
    · by_cases hb : b = Pt
      · rw [hb] at e ⊢
        rw [hT] at e
        cases e
        exact .inr (.inl ⟨(hd.tab hT).isCodeTable, rfl, #[], more, rfl, by rw [Array.empty_append]; exact hm⟩)
      · exact .inl (key b o hb e)
    · by_cases hb : b = Pt
      · rw [hb]
        exact ⟨_, hm⟩
      · exact ⟨o, key b o hb e⟩
/-- the goal hc of a head by facts -/
theorem law_endT {l : PySem.W.OpenLaw} {n k : Nat} {q : Program} {loose : List Str} {XP : (Str → Option Value) → Heap → Prop} {YP : World → Heap → Prop} {d : DefRec} {x : Str} {m : Mir}
    (most : l.most = some n) (le : n ≤ sizeLine) (dfl : d.params.defaults = []) (room : Room k callerA)
    (F : ∀ (w : World) (mg : Str → Option Value) (fa : Addr) (h : Heap), YP w h → h.Ns mainGlobals mg → mg d.name = some (.ref fa) →
      ∃ (K : PySem.W.Frag) (fd : FuncData) (c Pt : Addr) (nm : Nat → Nat → Str), K.In h ∧ h.get? Pt = some { cls := .none, data := .fields #[] } ∧ K.lookup Pt = none ∧ PySem.W.CodeHd h c Pt ∧ (∀ (s : Shared) (u : Value), BindsTo s fd ⟨[u], []⟩ [(x, u)]) ∧
        ∀ base : Heap, K.In base → base.Ns mainGlobals mg → TabB base mg c Pt → @FnG ⟨[(Pt, nm)]⟩ l.prog w K mg base k fa fd [x] m)
    (true_ : ∀ ns : List Int, ns.length ≤ n → (∀ z ∈ ns, Builtin.Int.intBits z ≤ 1048576) → m [.val (scriptD ns)] = .ok (.val (.bool true)) [none]) :
    PySem.W.WalkO q loose XP YP l.row.toRowW d [] (fun f vs => PySem.call f vs) := by
  refine Att.attach_callB most dfl fun w s₀ t mg mb fa o pm cd doc a vs ns G Y _ _ _ hm ha hi hl hz hg => ?_
  obtain ⟨K, fd, c, Pt, nm, kin, hT, nT, hd, hb, hF⟩ := F w mg fa _ Y G.T.g hm
  exact law_runT kin G.T.g G.T.b G.T.builtins G.T.nolimit hg hT nT hd G.T.bmain ha hi (Nat.le_trans hl le) room hF hb (true_ ns hl hz)
/-! ### the head's looks, empty tables left out -/
abbrev AlZ : Type := AlY × Bool
def partZ (n : Nat) (g : Addr → Option Obj) : PySem.W.Frag := He.frT g (sysModules :: He.asD g n)
def lookZ (n : Nat) (fa : List He.Fa) (fn : List He.DefD) (ex : List Look1) (ts : List (Str × List Str)) (tf : List He.Defn) (g : Addr → Option Obj) : AlZ := (((He.obsD fa fn (partZ n g), exB ex (partZ n g)), tabsY ts (partZ n g)), He.tabsB g tf (partZ n g))
structure TabK (tf : List He.Defn) (K : PySem.W.Frag) (h : Heap) : Prop where
  hd : ∀ p ∈ tf, PySem.W.codeHdIn K (He.cT K p).1 (He.cT K p).2 = true
  out : ∀ p ∈ tf, K.lookup (He.cT K p).2 = none
  empty : ∀ p ∈ tf, h.get? (He.cT K p).2 = some { cls := .none, data := .fields #[] }
theorem tabK_of {n : Nat} {tf : List He.Defn} {h : Heap} (e2 : He.tabsB h.get? tf (partZ n h.get?) = true) : TabK tf (partZ n h.get?) h := by
  have key : ∀ p ∈ tf, PySem.W.codeHdIn (partZ n h.get?) (He.cT (partZ n h.get?) p).1 (He.cT (partZ n h.get?) p).2 = true ∧ ∃ o, h.get? (He.cT (partZ n h.get?) p).2 = some o ∧ He.emptyTab o = true := fun p hp => by
    obtain ⟨h3, h4⟩ := He.ba (List.all_eq_true.mp e2 p hp)
    refine ⟨h3, ?_⟩
    cases q : h.get? (He.cT (partZ n h.get?) p).2 with
    | none =>
      rw [q] at h4
      cases h4
    | some o =>
      rw [q] at h4
      exact ⟨o, rfl, h4⟩
  exact ⟨fun p hp => (key p hp).1, fun p hp => by
    obtain ⟨_, o, q, z⟩ := key p hp
    exact He.frT_none q z, fun p hp => by
    obtain ⟨_, o, q, z⟩ := key p hp
    rw [q, He.emptyTab_eq z]⟩
def hookZ (n : Nat) (fa : List He.Fa) (fn : List He.DefD) (ex : List Look1) (ts : List (Str × List Str)) (tf : List He.Defn) : PySem.W.Hook where
  α := AlZ
  obs s := lookZ n fa fn ex ts tf s.heap.get?
  val w := (((He.valD fn, true), keysY ts w), true)
  says w h := ∃ K : PySem.W.Frag, K.In h ∧ He.SaysD fa fn K ∧ exB ex K = true ∧ tabsY ts K = keysY ts w ∧ TabK tf K h
  of _ s e := ⟨partZ n s.heap.get?, He.frT_in, congrArg (fun z : AlZ => z.1.1.1) e, congrArg (fun z : AlZ => z.1.1.2) e, congrArg (fun z : AlZ => z.1.2) e, tabK_of (congrArg (fun z : AlZ => z.2) e)⟩
  keeps _ _ _ z k := by
    obtain ⟨K, hK, c1, c2, c3, c4⟩ := z
    exact ⟨K, PySem.W.Frag.In.keeps hK k, c1, c2, c3, c4.hd, c4.out, fun p hp => k _ _ (c4.empty p hp)⟩
theorem lookZ_eq {n : Nat} {fa : List He.Fa} {fn : List He.DefD} {ex : List Look1} {ts : List (Str × List Str)} {tf : List He.Defn} {g : Addr → Option Obj} {s : Shared} (h : ∀ a, g a = s.heap.get? a) : lookZ n fa fn ex ts tf g = (hookZ n fa fn ex ts tf).obs s := by
  rw [funext h] <;> rfl
/-- the address of a def's code object -/
theorem code_at {K : PySem.W.Frag} {x q : Str} {st : Stmt} {fd : FuncData} {p : Str × Option Str} (F : FunD K x q (defArgs st) (defBody st) (defScope st) [] [] (He.fAd K p) fd) : fd.code = .ref (He.codeOf K p) := by
  obtain ⟨oc, od, dV, kV, doc, pm, an, cdv, ct, osl, e, lk, hc, hd, hk⟩ := F.ex
  obtain ⟨c, ec⟩ := He.codeIn_ref hc
  have z : fd.code = .ref c := by
    rw [e]
    exact ec
  rw [z, He.codeOf_eq lk z]
end Dl
namespace Dl
open PySem PySem.Spec PyProof.Rows L2
/-- the table that a def which makes functions leans on -/
def TabU [TabC] (base : Heap) (mg : Str → Option Value) (fd : FuncData) (nm : Nat → Nat → Str) : Prop := ∃ c Pt, fd.code = .ref c ∧ LamX.TabB base mg c Pt ∧ TabC.T = [(Pt, nm)]
end Dl
namespace Dl
open PySem
end Dl

set_option Elab.async false
set_option linter.all false
set_option maxRecDepth 100000
set_option maxHeartbeats 0
/-! Dl89: done (plughall.steps) by any deed. -/
namespace Dl.Dn
open PySem PySem.Spec PyProof.Rows L2 TL
open Kd (dt df)
/-! ### what a deed has captured -/
/-- alike but for what the lists hold -/
def Sh : List Cell → List Cell → Prop
  | [], [] => True
  | .val d :: a, .val e :: b => d = e ∧ Sh a b
  | .ref _ :: a, .ref _ :: b => Sh a b
  | _, _ => False
/-- what a call gives back of what was captured -/
abbrev og (gs gs' : List Cell) : DEnv := outs gs (gs'.map some)
/-! ### a call of the deed -/
/-! ### the mirrors, of any deed -/
section
variable (md : MirH) (js : List Nat)
variable (mr : Mir) (mv : MirH)
end
/-! ### steps -/
inductive Cw
  | set | add | times
inductive Dw
  | load | read | get | ask | keep | put | emit | send
def Cw.s : Cw → Str
  | .set => "set"
  | .add => "add"
  | .times => "times"
def Dw.s : Dw → Str
  | .load => "load"
  | .read => "read"
  | .get => "get"
  | .ask => "ask"
  | .keep => "keep"
  | .put => "put"
  | .emit => "emit"
  | .send => "send"
def Dw.fetch : Dw → Bool
  | .load => true
  | .read => true
  | .get => true
  | _ => false
def Dw.asks : Dw → Bool
  | .ask => true
  | _ => false
inductive Sp
  | cal (c : Cw) (n : Int)
  | pass (k : Int)
  | back (k : Int)
  | refuse
  | deed (w : Dw) (nm : Str)
def Sp.d : Sp → D
  | .cal c n => .tuple [.str c.s, .int n]
  | .pass k => .tuple [.str "pass", .int k]
  | .back k => .tuple [.str "back", .int k]
  | .refuse => .tuple [.str "refuse"]
  | .deed w nm => .tuple [.str w.s, .str nm]
def Cw.f (c : Cw) (n v : Int) : Int := match c with
  | .set => n
  | .add => v + n
  | .times => v * n
def Cw.good (c : Cw) (n v : Int) : Bool := match c with
  | .set => true
  | _ => Kd.numB (.int (c.f n v))
def Sp.ok : Sp → Prop
  | .cal _ n => -(2 ^ 64) < n ∧ n < 2 ^ 64
  | .pass k => -(2 ^ 64) < k ∧ k < 2 ^ 64
  | _ => True
/-- what a deed tells -/
inductive An
  | tells (a : D) (gs : List Cell)
  | raises (x : Exn) (gs : List Cell)
def ansI : D → Int
  | .int i => i
  | _ => 0
def isAns : D → Bool
  | .int _ => true
  | .none => true
  | _ => false
def IsAns (a : D) : Prop := a = .none ∨ ∃ i, a = .int i
abbrev Deed := Str → Str → Int → List Cell → An
def An.rf (gs : List Cell) : An → RF
  | .tells a gs' => .ok (.val a) (og gs gs')
  | .raises x gs' => .err x (og gs gs')
def An.gs : An → List Cell
  | .tells _ g => g
  | .raises _ g => g
/-- the mirror md is this deed, wherever G holds: it may be called so often -/
structure Is (md : MirH) (G : Nat → List Cell → Prop) (dd : Deed) : Prop where
  e : ∀ k w n v gs, G (k + 1) gs → md [.val (.str w), .val (.str n), .val (.int v)] gs = (dd w n v gs).rf gs
  sh : ∀ k w n v gs, G (k + 1) gs → Sh gs (dd w n v gs).gs
  nx : ∀ k w n v gs, G (k + 1) gs → G k (dd w n v gs).gs
  rf : ∀ k gs, G k gs → Sh gs gs
/-! ### one step -/
inductive Out
  | nx (v at_ : Int) (gs : List Cell)
  | er (x : Exn) (gs : List Cell)
  | bad
def byd : Exn := ⟨"Beyond", []⟩
def An.then_ (r : An) (f : D → List Cell → Out) : Out := match r with
  | .tells a g => f a g
  | .raises x g => .er x g
def Sp.run (dd : Deed) (s : Sp) (v p : Int) (gs : List Cell) : Out := match s with
  | .cal c n => (dd "step" "" 0 gs).then_ fun _ g => if c.good n v then .nx (c.f n v) (p + 1) g else .er byd g
  | .pass k => (dd "step" "" 0 gs).then_ fun _ g => .nx v (p + 1 + k * (if v ≤ 0 then 1 else 0)) g
  | .back k => (dd "step" "" 0 gs).then_ fun _ g => .nx v (p - k) g
  | .refuse => (dd "refuse" "" 0 gs).then_ fun _ g => .nx v (p + 1) g
  | .deed w nm => (dd w.s nm (if w.fetch then 0 else v) gs).then_ fun a g => if (w.fetch || w.asks) = true ∧ isAns a = false then .bad else .nx (if w.fetch || w.asks then ansI a else v) (p + 1) g
/-! ### ends -/
section
variable {md : MirH} {G : Nat → List Cell → Prop} {dd : Deed}
/-! ### one step of done -/
/-- reckoned: where it comes to no number, Beyond (where the law catches it) -/
structure RC (mr : Mir) (b : Bool) : Prop where
  ok : ∀ (c : Cw) (n v : Int), -(2 ^ 64) < n ∧ n < 2 ^ 64 → c.good n v = true → mr [.val (.str c.s), .val (.int n), .val (.int v)] = .ok (.val (.int (c.f n v))) [none, none, none]
  bd : b = true → ∀ (c : Cw) (n v : Int), -(2 ^ 64) < n ∧ n < 2 ^ 64 → c.good n v = false → mr [.val (.str c.s), .val (.int n), .val (.int v)] = .err byd [none, none, none]
variable {mr : Mir} {b : Bool}
/-! ### the loop, done -/
inductive Res
  | fin (v : Int) (gs : List Cell)
  | er (x : Exn) (gs : List Cell)
  | stuck
def loop (dd : Deed) (ss : List Sp) : Nat → Int → Int → List Cell → Res
  | 0, _, _, _ => .stuck
  | n + 1, v, p, gs => if p < (ss.length : Int) then (if 0 ≤ p then (match ss[p.toNat]? with
    | some s => (match s.run dd v p gs with
      | .nx v' p' g => loop dd ss n v' p' g
      | .er x g => .er x g
      | .bad => .stuck)
    | none => .stuck) else .stuck) else .fin v gs
end
/-! ### reckoned -/
end Dl.Dn


set_option Elab.async false
set_option linter.all false
set_option maxRecDepth 100000
set_option maxHeartbeats 2000000
/-! Dl91: d[k] of a dict, the key there. -/
namespace Dl
open PySem PySem.Spec PyProof.Rows L2 TL
variable [Reg] [TabC]
section
variable {X : Cx} {W : WX} {pos : Pos} {e o : Expr}
def dixF (d k : D) : Option D := match d with
  | .dict kvs => if keyOk k = true then getKD kvs k else none
  | _ => none
def fDIx (F : Fe Opd) (G : Fe D) : Fe D := fun δ => (F δ).bind fun o δ1 => (G δ1).bind fun k δ2 => R.of ((opd δ2 o).bind fun d => dixF d k) δ2
theorem datKT_get {K : PySem.W.Frag} {M : Msk} {H : Hp} (k : Key) : ∀ {ds : List (D × D)} {kt : List (List Key × V)}, DatKT K M H ds kt → getKD ds (kD k) = none
  | [], _, _ => rfl
  | (a, d) :: ds, _, h => by
    simp only [DatKT] at h
    obtain ⟨j, v, r, e, ek, h1, h2⟩ := h
    subst ek
    have y : getKD ((PyData.tuple (j.map kD), d) :: ds) (kD k) = getKD ds (kD k) := by
      cases k <;> rfl
    rw [y]
    exact datKT_get k h2
theorem dix_ok {M : Msk} {H : Hp} {d k x : D} {v y : V} (e : dixF d k = some x) (p : Pk X.K M H d v) (py : Dat X.K M H k y) :
    ∃ a u, v = .ref a ∧ DGet H a y (some u) ∧ Dat X.K M H x u := by
  unfold dixF at e
  split at e
  · rename_i kvs
    split at e
    · rename_i hk
      obtain ⟨key, rfl⟩ := keyOk_ex hk
      have hT : noT kvs = true := by
        cases q : noT kvs with
        | true => rfl
        | false =>
          obtain ⟨_, _, _, _, h⟩ := p.dictT q
          obtain ⟨r, rfl, h2⟩ := datT_mark h
          have z : getKD r (kD key) = none := datKT_get key h2
          have y : getKD ((PyData.none, bigD) :: r) (kD key) = getKD r (kD key) := by
            cases key <;> rfl
          rw [y, z] at e
          cases e
      obtain ⟨b, kv, rfl, rd, dk⟩ := p.dict hT
      rcases dk.get key with ⟨e1, e2⟩ | ⟨d1, v1, e1, e2, h⟩
      · rw [e1] at e
        cases e
      · rw [e1] at e
        cases e
        exact ⟨b, v1, rfl, .inl ⟨kv, key, rd, kD_v py, e2.symm⟩, h⟩
    · cases e
  · cases e
theorem de_dix {F : Fe Opd} {G : Fe D} (hu : X.A.units + 64 < cLine) (ho : DP X W o F) (he : DE X W e G) (hs : NoSl e := by exact fun _ _ => rfl) : DE X W (.Subscript o e pos) (fDIx F G) := by
  refine PE.imp (pe_dget (by omega) ho he hs) fun σ H Q q => ?_
  obtain ⟨Mi, δ, R, q⟩ := tG_bind (P := pO X) q
  refine ⟨Mi, δ, R, q.imp fun v H1 ⟨Mi, o, δ1, R1, p1, r⟩ => ?_⟩
  refine ⟨Mi, δ1, R1, (RunG.bind (P := pD X) r).imp fun y H2 ⟨k, δ2, g2, p2, r2⟩ => ?_⟩
  have p12 := stays_O _ _ _ _ _ _ _ _ R1 g2 p1
  cases eo : opd δ2 o with
  | none =>
    rw [eo] at r2
    exact False.elim r2
  | some d =>
    rw [eo] at r2
    have r4 : RunG X W (pD X) Mi σ H2 δ2 (Dl.R.of (dixF d k) δ2) Q := r2
    cases es : dixF d k with
    | none =>
      rw [es] at r4
      exact False.elim r4
    | some x =>
      rw [es] at r4
      obtain ⟨a, u, ev, hd, hx⟩ := dix_ok es (opd_pk rfl g2.rep p12 eo) p2
      exact ⟨a, u, ev, hd, r4 _ H2 (Go.refl g2.rep) hx⟩
end
end Dl

set_option Elab.async false
set_option linter.all false
set_option maxRecDepth 100000
set_option maxHeartbeats 2000000
/-! Dl92: several except clauses (without names). -/
namespace Dl
open PySem PySem.Spec PyProof.Rows L2
/-- which classes a clause takes, which not -/
def subL (l : List (Str × Bool)) : Sub := fun m => l.lookup m
inductive SubsAt (X : Cx) (c : Value) : List (Str × Bool) → Prop
  | nil : SubsAt X c []
  | cons {n : Str} {b : Bool} {C : Addr} {r : List (Str × Bool)} (hm : X.mg n = some (.ref C)) (he : PySem.W.exmOne X.K (.ref C) c = some b) (t : SubsAt X c r) : SubsAt X c ((n, b) :: r)
theorem SubsAt.ok {X : Cx} {c : Value} : ∀ {l : List (Str × Bool)}, SubsAt X c l → SubOk X c (subL l)
  | _, .nil, n, b, cls, h, _ => by cases h
  | _, .cons (n := m) (b := b0) (r := r) hm he t, n, b, cls, h, hc => by
    have h : (match n == m with | true => some b0 | false => r.lookup n) = some b := h
    cases q : (n == m) with
    | true =>
      rw [q] at h
      cases h
      obtain rfl := eq_of_beq q
      rcases hc with hc | ⟨hc, _⟩
      · rw [hm] at hc
        cases hc
        exact he
      · rw [hm] at hc
        cases hc
    | false =>
      rw [q] at h
      exact t.ok n b cls h hc
section
variable [Reg] [TabC] {X : Cx} {W : WX} {Mi : Msk} {σ : St} {H : Hp} {δ : DEnv} {body : List Stmt} {B : Fs} {pos : Pos}
def tryL : List (List (Str × Bool) × Fs) → Exn → DEnv → RS
  | [], x, δ1 => .err x δ1
  | (l, S) :: r, x, δ1 => match subL l x.cls with
    | some true => noErr (S δ1)
    | some false => tryL r x δ1
    | none => .bad
abbrev Hts := List (Value × (Addr → Value → Option Addr → TS))
/-- the clauses, what their mirrors are -/
inductive HL (X : Cx) : List ExceptHandler → List (List (Str × Bool) × Fs) → Hts → Prop
  | nil : HL X [] [] []
  | cons {x : Str} {c : Value} {l : List (Str × Bool)} {S : Fs} {b₀ : Stmt} {suite : List Stmt} {np pos' : Pos} {hds : List ExceptHandler} {lm : List (List (Str × Bool) × Fs)} {ht : Hts} (hc : Names X x c) (hs : SubsAt X c l)
      (hsu : ∀ (a : Addr) (oe : Obj) (pn : List (Addr × Obj)), DSs (X.suite a ((a, oe) :: pn)) (fun _ _ _ _ => False) (b₀ :: suite) S) (r : HL X hds lm ht) :
      HL X (.ExceptHandler (some (.Name x np)) none (b₀ :: suite) pos' :: hds) ((l, S) :: lm) ((c, fun _ _ _ => tS X (fun _ _ _ _ => False) S) :: ht)
theorem HL.hds {hds : List ExceptHandler} {lm : List (List (Str × Bool) × Fs)} {ht : Hts} (h : HL X hds lm ht) : HdsOk X hds ht := by
  induction h with
  | nil => exact .nil
  | cons hc hs hsu r ih => exact .cons hc (fun a oe cls d pn _ _ => hsu a oe pn) ih
theorem HL.many {hds : List ExceptHandler} {lm : List (List (Str × Bool) × Fs)} {ht : Hts} (h : HL X hds lm ht) {D : Ends} {x : Exn} {δ1 : DEnv} {cls : Value} {dd : Option Addr} {σ' : St} {H' : Hp} (hcls : ClsOf X x.cls cls) (g : Go X.K Mi Mi σ H δ σ' H' δ1) (ex : ExcD X.K (msk Mi σ' δ1) H' dd x)
    (q : RunS X W Mi σ H δ (tryL lm x δ1) D) : wMany X.K W D ht cls dd σ' H' := by
  induction h with
  | nil => exact q cls dd σ' H' hcls g ex
  | @cons _ c l S _ _ _ _ _ lm ht hc hs hsu r ih =>
    unfold tryL at q
    cases es : subL l x.cls with
    | none =>
      rw [es] at q
      exact q.elim
    | some b =>
      rw [es] at q
      refine ⟨b, hs.ok _ _ _ es hcls, fun eb a _ => ?_, fun eb => ?_⟩
      · subst eb
        have q2 : RunS X (fun _ _ _ _ => False) Mi σ' H' δ1 (S δ1) D := by
          have q1 : RunS X W Mi σ H δ (noErr (S δ1)) D := q
          cases er : S δ1 with
          | err _ _ =>
            rw [er] at q1
            exact q1.elim
          | next δ' =>
            rw [er] at q1
            exact RunS.go g q1
          | ret c δ' =>
            rw [er] at q1
            have q2 := RunS.go g q1
            cases c with
            | val d => exact q2
            | own d => exact q2
            | ref d => exact q2
            | exc _ _ _ => exact q2
          | brk δ' =>
            rw [er] at q1
            exact RunS.go g q1
          | cont δ' =>
            rw [er] at q1
            exact RunS.go g q1
          | bad =>
            rw [er] at q1
            exact q1.elim
        exact ⟨Mi, δ1, g.rep, q2⟩
      · subst eb
        exact ih q
end
end Dl

set_option Elab.async false
set_option linter.all false
set_option maxRecDepth 100000
set_option maxHeartbeats 2000000
/-! Dl93: rows of steps joined: the first, then the second. -/
namespace Dl.Dn
open PySem PySem.Spec PyProof.Rows L2
/-- each asking brings the end nearer; what is told for a value is one -/
structure Nears (dd : Deed) (J : List Cell → Prop) (m : List Cell → Nat) : Prop where
  dn : ∀ w n v gs a g, J gs → dd w n v gs = .tells a g → m g < m gs ∧ J g
  an : ∀ (w : Dw) n v gs a g, J gs → (w.fetch || w.asks) = true → dd w.s n v gs = .tells a g → IsAns a
section
variable {dd : Deed} {J : List Cell → Prop} {m : List Cell → Nat}
def Res.then_ (r : Res) (f : Int → List Cell → Res) : Res := match r with
  | .fin v g => f v g
  | r => r
end
end Dl.Dn

set_option Elab.async false
set_option linter.all false
set_option maxRecDepth 100000
set_option maxHeartbeats 2000000
/-! Dl94: d[k] = e, d an own or a lent dict. -/
namespace Dl
open PySem PySem.Spec PyProof.Rows L2 TL
section
variable [Reg] [TabC] {X : Cx} {W : WX} {pos p p2 : Pos} {e i : Expr} {x : Str} {Fi Fv : Fe D}
def onDict (v : Nat) (δ : DEnv) (g : List (D × D) → RS) : RS :=
  match lendable δ v with
  | some (.dict ds) => g ds
  | _ => .bad
def sItemD (v : Nat) (Fi F : Fe D) : Fs := fun δ => (F δ).bindS fun d δ1 =>
  if (lendable δ1 v).isSome = true then (Fi δ1).bindS fun k δ2 => onDict v δ2 fun ds =>
    if keyOk k = true ∧ ds.length < 1000000 ∧ noT ds = true then .next (putD v (.dict (putKD ds k d)) δ2) else .bad
  else .bad
theorem ds_itemD {v : Nat} (hu : X.A.units + 64 < cLine) (hN : X.N[v]? = some x) (hv : Vis X.env.scope x) (hi : DE X W i Fi) (h : DE X W e Fv) (hs : swapsWith e (some (.Subscript (.Name x p) i p2)) pos.line X.env = pure false := by rfl)
    (hd : (x == ("__debug__" : Str)) = false := by decide +kernel) (hcd : (x == ("__classdict__" : Str)) = false := by decide +kernel) : DS X W (.Assign [.Subscript (.Name x p) i p2] e pos) (sItemD v Fi Fv) := by
  refine PS.imp (ps_dput (by omega) (pe_var hN hv hd hcd) hi h hs) fun σ H E q => ?_
  obtain ⟨Mi, δ, R, q⟩ := tS_bind (P := pD X) q
  refine ⟨Mi, δ, R, q.imp fun u H1 ⟨Mi, d, δ1, R1, pd, r⟩ => ?_⟩
  split at r
  · rename_i hl
    obtain ⟨d0, hl⟩ := Option.isSome_iff_exists.mp hl
    obtain ⟨a, sa⟩ := hasSlot R1 hl
    refine ⟨.ref a, sa, Mi, δ1, R1, (RunS.bind (P := pD X) r).imp fun w H2 ⟨k, δ2, g2, pk, r2⟩ => ?_⟩
    have pd2 := stays_D _ _ _ _ _ _ _ _ R1 g2 pd
    unfold onDict at r2
    split at r2
    · rename_i ds hl2
      dsimp only at r2
      obtain ⟨a2, c, sa2, ec, hc, ma, ct⟩ := lend_slot g2.rep hl2
      rw [sa] at sa2
      cases sa2
      split at r2
      · rename_i hk
        obtain ⟨hk, hlt, hT⟩ := hk
        rcases ct with ⟨kv, ex, rx⟩ | ⟨kt, _, rx⟩
        case inr =>
          rw [datT_no rx] at hT
          cases hT
        obtain ⟨key, rfl⟩ := keyOk_ex hk
        have yk := kD_v pk
        refine ⟨a, _, rfl, .inl ⟨kv, key, ex, yk, ?_, rfl⟩, r2 σ _ ?_⟩
        · rw [rx.len]
          exact Nat.lt_of_lt_of_le hlt (by decide)
        · rw [putD_eq ec]
          exact Go.write g2.rep ec hc sa (.inl ⟨_, upd_same, (rx.put pd2).mv (Mv.updM ma)⟩)
      · exact False.elim r2
    · exact False.elim r2
  · exact False.elim r
end
end Dl



set_option Elab.async false
set_option linter.all false
set_option maxRecDepth 100000
set_option maxHeartbeats 2000000
/-! Dl97: dicts whose keys are tuples of numbers and texts: {} as one, d[(a, b)] = e, d.get((a, b)). -/
namespace Dl
open PySem PySem.Spec PyProof.Rows L2 TL
theorem kDs_inj : ∀ {j k : List Key}, j.map kD = k.map kD → j = k
  | [], [], _ => rfl
  | [], _ :: _, h => by cases h
  | _ :: _, [], h => by cases h
  | a :: j, b :: k, h => by
    rw [List.map_cons, List.map_cons] at h
    injection h with h1 h2
    rw [kD_inj h1, kDs_inj h2]
theorem eqD_kT (j k : List Key) : eqD (.tuple (j.map kD)) (.tuple (k.map kD)) = decide (j = k) := by
  by_cases h : j = k
  · subst h
    rw [eqD_refl]
    simp
  · rw [decide_eq_false h]
    cases e : eqD (.tuple (j.map kD)) (.tuple (k.map kD)) with
    | false => rfl
    | true =>
      have z := eqD_ok e
      injection z with z
      exact absurd (kDs_inj z) h
section
variable {K : PySem.W.Frag} {M M' : Msk} {H H' : Hp}
theorem DatKT.nil : DatKT K M H [] [] := by simp only [DatKT]
theorem DatKT.cons {k : List Key} {d : D} {v : V} {ds : List (D × D)} {kv : List (List Key × V)} (h : Dat K M H d v) (t : DatKT K M H ds kv) : DatKT K M H ((.tuple (k.map kD), d) :: ds) ((k, v) :: kv) := by
  simp only [DatKT]
  exact ⟨k, v, kv, rfl, rfl, h, t⟩
theorem DatKT.inv {p : D × D} {ds : List (D × D)} {kv : List (List Key × V)} (h : DatKT K M H (p :: ds) kv) : ∃ j v r, kv = (j, v) :: r ∧ p.1 = .tuple (j.map kD) ∧ Dat K M H p.2 v ∧ DatKT K M H ds r := by
  obtain ⟨k, d⟩ := p
  simpa only [DatKT] using h
theorem DatKT.nil_inv {kv : List (List Key × V)} (h : DatKT K M H [] kv) : kv = [] := by simpa only [DatKT] using h
theorem DatKT.len : ∀ {ds : List (D × D)} {kv : List (List Key × V)}, DatKT K M H ds kv → kv.length = ds.length
  | [], _, h => by rw [h.nil_inv]; rfl
  | p :: ds, _, h => by
    obtain ⟨j, v, r, rfl, _, _, h2⟩ := h.inv
    rw [List.length_cons, List.length_cons, h2.len]
theorem DatKT.any (k : List Key) : ∀ {ds : List (D × D)} {kv : List (List Key × V)}, DatKT K M H ds kv → (ds.any fun p => eqD p.1 (.tuple (k.map kD))) = kv.any fun p => decide (p.1 = k)
  | [], _, h => by rw [h.nil_inv]; rfl
  | p :: ds, _, h => by
    obtain ⟨j, v, r, rfl, e, _, h2⟩ := h.inv
    rw [List.any_cons, List.any_cons, h2.any k, e, eqD_kT]
theorem DatKT.append {k : List Key} {d : D} {v : V} (g : Dat K M H d v) : ∀ {ds : List (D × D)} {kv : List (List Key × V)}, DatKT K M H ds kv → DatKT K M H (ds ++ [(.tuple (k.map kD), d)]) (kv ++ [(k, v)])
  | [], _, h => by
    rw [h.nil_inv]
    exact .cons g .nil
  | p :: ds, _, h => by
    obtain ⟨j, w, r, rfl, e, h1, h2⟩ := h.inv
    obtain ⟨p1, p2⟩ := p
    dsimp only at e
    subst e
    exact .cons h1 (h2.append g)
theorem DatKT.map {k : List Key} {d : D} {v : V} (g : Dat K M H d v) : ∀ {ds : List (D × D)} {kv : List (List Key × V)}, DatKT K M H ds kv → DatKT K M H (ds.map fun p => if eqD p.1 (.tuple (k.map kD)) = true then (p.1, d) else p) (kv.map fun p => if p.1 = k then (p.1, v) else p)
  | [], _, h => by
    rw [h.nil_inv]
    exact .nil
  | p :: ds, _, h => by
    obtain ⟨j, w, r, rfl, e, h1, h2⟩ := h.inv
    obtain ⟨p1, p2⟩ := p
    dsimp only at e
    subst e
    rw [List.map_cons, List.map_cons]
    dsimp only
    rw [eqD_kT]
    by_cases q : j = k
    · rw [decide_eq_true q, if_pos rfl, if_pos q]
      exact .cons g (h2.map g)
    · rw [decide_eq_false q, if_neg (by decide), if_neg q]
      exact .cons h1 (h2.map g)
theorem DatT.put {k : List Key} {d : D} {v : V} {ds : List (D × D)} {kv : List (List Key × V)} (h : DatT K M H ds kv) (g : Dat K M H d v) : DatT K M H (putKD ds (.tuple (k.map kD)) d) (putK kv k v) := by
  obtain ⟨r, rfl, h2⟩ := datT_mark h
  have e : putKD ((PyData.none, bigD) :: r) (.tuple (k.map kD)) d = (PyData.none, bigD) :: putKD r (.tuple (k.map kD)) d := by
    unfold putKD
    rw [List.any_cons]
    have z : eqD PyData.none (.tuple (k.map kD)) = false := rfl
    rw [z, Bool.false_or]
    split
    · rw [List.map_cons]
      dsimp only
      rw [z, if_neg (by decide)]
    · rfl
  rw [e]
  simp only [DatT]
  refine ⟨trivial, trivial, ?_⟩
  unfold putKD putK
  rw [h2.any k]
  split
  · exact h2.map g
  · exact h2.append g
theorem DatKT.get (k : List Key) : ∀ {ds : List (D × D)} {kv : List (List Key × V)}, DatKT K M H ds kv → (getKD ds (.tuple (k.map kD)) = none ∧ valV kv k = none) ∨ ∃ d v, getKD ds (.tuple (k.map kD)) = some d ∧ valV kv k = some v ∧ Dat K M H d v
  | [], _, h => by
    rw [h.nil_inv]
    exact .inl ⟨rfl, rfl⟩
  | p :: ds, _, h => by
    obtain ⟨j, w, r, rfl, e, h1, h2⟩ := h.inv
    obtain ⟨p1, p2⟩ := p
    dsimp only at e
    subst e
    unfold getKD
    rw [eqD_kT]
    by_cases q : j = k
    · rw [decide_eq_true q, if_pos rfl, valV_pos (p := (j, w)) q]
      exact .inr ⟨_, _, rfl, rfl, h1⟩
    · rw [decide_eq_false q, if_neg (by decide), valV_neg (p := (j, w)) q]
      exact h2.get k
end
section
variable [Reg] [TabC] {X : Cx} {W : WX} {pos p p2 p3 apos cpos : Pos} {e o : Expr} {es : List Expr} {x1 : Nat} {x : Str} {F : Fe (List D)} {G : Fe D}
end
end Dl

set_option Elab.async false
set_option linter.all false
set_option maxRecDepth 100000
set_option maxHeartbeats 2000000
/-! Dl98: lambdas as sort keys: x.sort(key=lambda r: r[0]). -/
namespace Dl
open PySem PySem.Spec PyProof.Rows L2
open LamX (CodeO TabB ExtN inv_table codeO_ne)
open NdefX (TabN TabsN)
/-- what a lambda's object tells -/
structure LM where
  qual : Str
  pars : Arguments
  ex : Expr
  sc : Scope
  cl : List (Str × Addr)
  cd : Addr
abbrev LM.fd (F : LM) (pm ctv : Value) : FuncData := PySem.W.kla_fn "<lambda>" F.qual F.pars F.ex F.sc F.cl pm (.ref F.cd) ctv
abbrev LM.obj (F : LM) (pm ctv : Value) : Obj := { cls := .type "function", data := .func (F.fd pm ctv) }
def LamO (f : Addr) (F : LM) : HO := .ext fun h => ∃ pm ctv : Value, h.get? f = some (F.obj pm ctv)
section
variable {X : Cx} {pins : List (Addr × Obj)} {σ : St} {H : Hp} {s : Shared}
theorem lam_known {F : LM} {t' : Nat} {pm ctv : Value} (I : Inv X pins σ H s) : Inv X pins σ (upd H s.heap.objs.size (LamO s.heap.objs.size F)) { s with heap := s.heap.push (F.obj pm ctv), toks := t' } := by
  have at_ : (s.heap.push (F.obj pm ctv)).get? s.heap.objs.size = some (F.obj pm ctv) := Heap.get?_push_size _ rfl
  exact I.laid (a := s.heap.objs.size) (fun _ _ z => Heap.get?_push_of_some _ z) (Nat.le_refl _) ⟨⟨pm, ctv, at_⟩, ⟨_, at_⟩, fun g1 g2 ⟨p, t, z⟩ st => ⟨p, t, st _ z⟩⟩
theorem upd_no {H : Hp} {a b : Addr} {o : HO} (e : upd H a o b = Option.none) : H b = Option.none := by
  unfold upd at e
  split at e
  · cases e
  · exact e
/-- lambda ..: e -/
theorem lam_mk {nm : Nat → Nat → Str} {c Pt : Addr} {pars : Arguments} {ex : Expr} {sc : Scope} {pos : Pos} {E : Value → Shared → Prop} {Q : Value → Shared → Prop} (I : Inv X pins σ H s) (tb : TabB X.base X.mg c Pt) (hcode : X.env.code = .ref c)
    (hn : nm pos.line pos.col = X.env.qual ++ "<lambda>") (hT : TabsN [(Pt, nm)] H) (hdef : defaultsOf pars X.env = ([], [])) (hfree : ∀ y ∈ sc.names, y.2 = .free → ∃ c, X.env.cells.lookup y.1 = some c)
    (h : ∀ (f c' : Addr) (H1 : Hp) (s' : Shared), Inv X pins σ H1 s' → ExtN H H1 → (∀ b, H1 b = Option.none → H b = Option.none) → TabsN [(Pt, nm)] H1 → H f = none →
      H1 f = some (LamO f ⟨X.env.qual ++ "<lambda>", pars, ex, sc, cloFrom X.env.cells sc.names [], c'⟩) → H1 c' = some (CodeO c' (X.env.qual ++ "<lambda>")) → Q (.ref f) s') :
    wpAny (model X.prog X.w) X.A (eval (.Lambda pars ex sc pos) X.env) Q E s := by
  obtain ⟨qs, atP, okP, fnd⟩ := (show TabN H Pt nm from hT _ (List.mem_singleton.mpr rfl))
  have blt : s.heap.BuiltinsAt X.mg Pt := tb.bm.keeps I.bk
  have obP : s.heap.get? Pt = some { cls := .none, data := .fields qs } := I.hok Pt _ atP
  refine PySem.W.kla_eval hdef ?_
  cases hc : codeAmong pos qs.toList with
  | none =>
    refine PySem.W.kla_makeFunction (mg := X.mg) (c := c) (P := Pt) (ps := qs) (closure_ok hfree) I.ok.glob (I.mod.glob.keeps I.bk) hcode (tb.code.keeps I.bk) obP okP hc tb.gP blt fun cN ctv hp tk ext ge lt_ rec_ tabN => ?_
    obtain ⟨cM, oC, vC, tC, eC, oC2, dC, qC⟩ := rec_
    cases eC
    have newC : H cN = none := I.hok.fresh ge
    have J := inv_table (t' := tk) (more := #[rawInt pos.line, rawInt pos.col, .ref cN]) (h' := hp) I atP (fun b o nb q => ext b o nb q) tabN ge ⟨oC, vC, tC, oC2, dC, qC⟩
    have grow : ExtN H (upd (upd H Pt (.tbl (qs ++ #[rawInt pos.line, rawInt pos.col, .ref cN]))) cN (CodeO cN (X.env.qual ++ "<lambda>"))) := fun b o q n => by
      have h1 : b ≠ Pt := fun z => n qs (Option.some.inj (q.symm.trans (by rw [z]; exact atP)))
      rw [upd_ne (ne_of_none q newC), upd_ne h1]
      exact q
    have lst : (qs ++ #[rawInt pos.line, rawInt pos.col, .ref cN]).toList = qs.toList ++ [rawInt pos.line, rawInt pos.col, .ref cN] := by simp
    have tabs : TabsN [(Pt, nm)] (upd (upd H Pt (.tbl (qs ++ #[rawInt pos.line, rawInt pos.col, .ref cN]))) cN (CodeO cN (X.env.qual ++ "<lambda>"))) := fun p hp => by
      rw [List.mem_singleton.mp hp]
      refine ⟨_, by rw [upd_ne (ne_of_none atP newC)]; exact upd_same, by rw [lst]; exact PySem.TriplesOk_snoc _ _ _ _ okP, fun p2 cv hcv => ?_⟩
      rw [lst] at hcv
      rcases NdefX.among_app2 _ okP hcv with z | ⟨z, z1, z2⟩
      · obtain ⟨c0, k1, k2⟩ := fnd p2 cv z
        exact ⟨c0, k1, grow _ _ k2 codeO_ne⟩
      · refine ⟨cN, z, ?_⟩
        show _ = some (CodeO cN (nm p2.line p2.col))
        rw [← z1, ← z2, hn]
        exact upd_same
    have newF := J.hok.fresh (Nat.le_refl _)
    have J2 := lam_known (F := ⟨X.env.qual ++ "<lambda>", pars, ex, sc, cloFrom X.env.cells sc.names [], cN⟩) (t' := tk) (pm := (X.mg "__name__").getD .none) (ctv := ctv) J
    refine h hp.objs.size cN _ _ J2 (fun b o q n => ?_) (fun b q => upd_no (upd_no (upd_no q))) (tabs.ext fun b o q => (upd_ne (ne_of_none q newF)).trans q) (I.hok.fresh (Nat.le_trans ge (Nat.le_of_lt lt_))) upd_same ?_
    · have k := grow b o q n
      exact (upd_ne (ne_of_none k newF)).trans k
    · exact (upd_ne (Nat.ne_of_lt lt_)).trans upd_same
  | some cv =>
    obtain ⟨cN, q, cO⟩ := fnd pos cv hc
    subst q
    rw [hn] at cO
    refine PySem.W.kla_makeFunctionHit (mg := X.mg) (c := c) (P := Pt) (ps := qs) (closure_ok hfree) I.ok.glob (I.mod.glob.keeps I.bk) hcode (tb.code.keeps I.bk) obP okP hc blt fun ctv hp tk ext _ => ?_
    have J : Inv X pins σ H { s with heap := hp, toks := tk } := I.kept ext
    have newF : H hp.objs.size = none := J.hok.fresh (Nat.le_refl _)
    have J2 := lam_known (F := ⟨X.env.qual ++ "<lambda>", pars, ex, sc, cloFrom X.env.cells sc.names [], cN⟩) (t' := tk) (pm := (X.mg "__name__").getD .none) (ctv := ctv) J
    exact h hp.objs.size cN _ _ J2 (fun b o q n => (upd_ne (ne_of_none q newF)).trans q) (fun b q => upd_no q) (hT.ext fun b o q => (upd_ne (ne_of_none q newF)).trans q) newF upd_same ((upd_ne (ne_of_none cO newF)).trans cO)
/-- .. as an expression -/
def tLamK (T : List NdefX.NTab) (q : Str) (mk : Addr → LM) : TE := fun _ H Q => TabsN T H ∧ ∀ (f c' : Addr) (H1 : Hp), ExtN H H1 → (∀ b, H1 b = Option.none → H b = Option.none) → TabsN T H1 → H f = none → H1 f = some (LamO f (mk c')) → H1 c' = some (CodeO c' q) → Q (.ref f) H1
theorem pe_lamK {nm : Nat → Nat → Str} {c Pt : Addr} {pars : Arguments} {ex : Expr} {sc : Scope} {pos : Pos} (tb : TabB X.base X.mg c Pt) (hcode : X.env.code = .ref c) (hn : nm pos.line pos.col = X.env.qual ++ "<lambda>") (hdef : defaultsOf pars X.env = ([], []))
    (hfree : X.Ok → ∀ y ∈ sc.names, y.2 = .free → ∃ c, X.env.cells.lookup y.1 = some c) :
    PE X (.Lambda pars ex sc pos) (tLamK [(Pt, nm)] (X.env.qual ++ "<lambda>") fun c' => ⟨X.env.qual ++ "<lambda>", pars, ex, sc, cloFrom X.env.cells sc.names [], c'⟩) := by
  refine ⟨fun pins s σ H Q I h => ?_⟩
  obtain ⟨hT, h⟩ := h
  exact lam_mk I tb hcode hn hT hdef (hfree I.ok) fun f c' H1 s' J e n t f0 f1 c1 => ⟨.ref f, H1, J, rfl, h f c' H1 e n t f0 f1 c1⟩
end
/-! ### lambda p: p[0] -/
/-- a lambda with one name, its own -/
structure Lam1 (pars : Arguments) (sc : Scope) (p : Str) : Prop where
  kind : sc.kind = .function
  co : sc.isCoroutine = false
  gen : sc.isGenerator = false
  cell : ∀ y ∈ sc.names, y.2 ≠ .cell
  loc : sc.names.lookup p = some .local
  bind : ∀ (q : Str) (ex : Expr) (cl : List (Str × Addr)) (pm cv ctv u : Value), bindArgs (PySem.W.kla_fn "<lambda>" q pars ex sc cl pm cv ctv) ⟨[u], []⟩ = pure [(p, u)]
/-- a call of it, in any heap that has kept what it needs -/
theorem lam_enter {P : Program} {w : World} {A : Around} {s : Shared} {f : Addr} {F : LM} {pm ctv u : Value} {p : Str} {R : Value → Shared → Prop} (L : Lam1 F.pars F.sc p) (room : A.depth < recursionLimit) (ho : s.heap.get? f = some (F.obj pm ctv)) (hcd : s.heap.CodeRec (.ref F.cd) F.qual) (lim : s.heap.NoLimit)
    (hb : ∀ (g : Heap) (tk : Tok), (∀ b o, s.heap.get? b = some o → g.get? b = some o) → g.Ns s.heap.objs.size (fun x => [(p, u)].lookup x) →
      wpAny (model P w) (A.deeper (PySem.W.envX F.qual F.sc s.heap.objs.size f (.ref F.cd) F.cl)) (eval F.ex (PySem.W.envX F.qual F.sc s.heap.objs.size f (.ref F.cd) F.cl)) R (fun _ _ => False) { s with heap := g, toks := tk }) :
    wpAny (model P w) A (call (.ref f) [u]) R (fun _ _ => False) s := by
  refine wpAny_call (PySem.W.kla_callFunE room ho rfl L.co L.gen rfl hcd ?_)
  rw [L.bind]
  refine wpAny_pure (wpAny_newFunctionEnv L.cell (fun y hy => ?_) (fun g ns sb => ⟨lim.fresh _ sb, ?_⟩) L.kind)
  · rw [List.mem_singleton.mp hy]
    exact L.loc
  · have up : ∀ b o, s.heap.get? b = some o → g.get? b = some o := fun b o q => sb.extBut b o (Nat.ne_of_lt (Heap.lt_size q)) (Heap.get?_push_of_some _ q)
    show codeAny _ _ (.expr F.ex (PySem.W.envX F.qual F.sc s.heap.objs.size f (.ref F.cd) F.cl)) _ _
    exact PySem.W.kla_codeExpr (wpAny_mono (hb g _ up ns) (fun v s' z => z) fun _ _ z => z.elim)
/-- the first of a tuple -/
def hd0 : D → D
  | .tuple (x :: _) => x
  | _ => .none
def intHd : D → Bool
  | .tuple (.int _ :: _) => true
  | _ => false
theorem intHd_un {d : D} (h : intHd d = true) : ∃ k r, d = .tuple (.int k :: r) := by
  unfold intHd at h
  split at h
  · exact ⟨_, _, rfl⟩
  · cases h
def sortHd (ds : List D) : List D := ds.mergeSort (PySem.W.dataLe false hd0)
/-- the lambda's text: its one name's first -/
def IsHd0 (F : LM) (p : Str) : Prop := Lam1 F.pars F.sc p ∧ ∃ p1 p2 p3 j, F.ex = .Subscript (.Name p p1) (.Constant (.int 0) j p2) p3
/-- a value that is a tuple with an int ahead, in any later heap -/
def HdAt (h : Heap) (a : Addr) (u : Value) (k : Int) : Prop := ∃ (t : Addr) (its : Array Value) (tk : Tok), u = .ref t ∧ t ≠ a ∧ IsTup h t its ∧ its[0]? = some (.int k tk)
theorem tup_keep {h g : Heap} {a t : Addr} {its : Array Value} (kp : PySem.W.KeepsBut a h g) (n : t ≠ a) (x : IsTup h t its) : IsTup g t its := by
  obtain ⟨o, e, r⟩ := x
  exact ⟨o, kp t o n e, r⟩
theorem hd0_turn {P : Program} {w : World} {A : Around} {s : Shared} {f a : Addr} {F : LM} {pm ctv u : Value} {p : Str} {k : Int} (L : IsHd0 F p) (hd : (p == ("__debug__" : Str)) = false) (room : A.depth < recursionLimit) (nf : f ≠ a) (nc : F.cd ≠ a) (ho : s.heap.get? f = some (F.obj pm ctv)) (hcd : s.heap.CodeRec (.ref F.cd) F.qual)
    (lim : ∀ g : Heap, PySem.W.KeepsBut a s.heap g → g.NoLimit) (x : HdAt s.heap a u k) (g : Heap) (tk : Nat) (kp : PySem.W.KeepsBut a s.heap g) :
    wpAny (model P w) A (call (.ref f) [u]) (PySem.W.KeyPure (.int k) { s with heap := g, toks := tk }) (fun _ _ => False) { s with heap := g, toks := tk } := by
  obtain ⟨L1, p1, p2, p3, j, eF⟩ := L
  obtain ⟨t, its, tk0, rfl, nt, ht, h0⟩ := x
  obtain ⟨c, oc, vs, tq, ec, e1, e2, e3⟩ := hcd
  cases ec
  refine lam_enter (pm := pm) (ctv := ctv) L1 room (kp _ _ nf ho) ⟨F.cd, oc, vs, tq, rfl, kp _ _ nc e1, e2, e3⟩ (lim g kp) fun g2 tk2 up ns => ?_
  rw [eF]
  have i1 : IsTup g2 t its := by
    obtain ⟨o, e, r⟩ := tup_keep kp nt ht
    exact ⟨o, up t o e, r⟩
  have nm : ([(p, Value.ref t)] : List (Str × Value)).lookup p = some (.ref t) := by simp
  refine Subscript_ (wpAny_Name (wpAny_loadName_local L1.kind L1.loc ns nm ?_) hd)
  refine wpAny_Constant_int (item_tuple i1 (by decide) (by decide) (j := 0) ?_ h0 ⟨g2, _, rfl, up, .int k tk0⟩)
  have hlt : 0 < its.size := by
    cases hs : its.size with
    | zero =>
      have : its[0]? = none := by simp [hs]
      rw [this] at h0
      cases h0
    | succ n => omega
  exact seqIndex_of (by decide) (by simpa using hlt)
section
variable {X : Cx}
/-- x.sort(key=f), f a lambda p: p[0], x's items tuples with ints ahead -/
def rSortHd (K : PySem.W.Frag) (mk : Addr → LM) : V → List V → Hp → VK → Prop := fun x zs H Q => ∃ (a f c' : Addr) (xs : List V) (M : Msk) (ds : List D), x = V.ref a ∧ zs = [V.ref f] ∧ H a = some (.lst xs) ∧ H f = some (LamO f (mk c')) ∧ H c' = some (CodeO c' (mk c').qual) ∧
  DatAll K M H ds xs ∧ ds.all intHd = true ∧ ∀ ys, DatAll K M H (sortHd ds) ys → Q .non (upd H a (.lst ys))
/-- the items of such a list -/
theorem hd_items {pins : List (Addr × Obj)} {σ : St} {H : Hp} {s : Shared} {M : Msk} {a : Addr} {o : Obj} (I : Inv X pins σ H s) (ho : s.heap.get? a = some o) (hc : o.cls = .type "list") : ∀ {ds : List D} {xs : List V} {its : List Value}, Vals xs its → DatAll X.K M H ds xs → ds.all intHd = true →
    PySem.W.EachIs (fun (v : Value) (b : V × D) => (RelV b.1 v ∧ Dat X.K M H b.2 b.1) ∧ ∃ k r, b.2 = .tuple (.int k :: r) ∧ HdAt s.heap a v k) its (xs.zip ds) ∧ (xs.zip ds).map Prod.snd = ds
  | [], _, _, .nil, r, _ => by
    rw [r.nil_inv]
    exact ⟨.nil, rfl⟩
  | d :: ds, _, _, .cons (a := x) (b := u) rx rxs, r, hd => by
    obtain ⟨v, t, ev, h1, h2⟩ := r.cons_inv
    cases ev
    simp only [List.all_cons, Bool.and_eq_true] at hd
    obtain ⟨b1, b2⟩ := hd_items I ho hc rxs h2 hd.2
    obtain ⟨k, r2, rfl⟩ := intHd_un hd.1
    refine ⟨.cons ⟨⟨rx, h1⟩, k, r2, rfl, ?_⟩ b1, by rw [List.zip_cons_cons, List.map_cons, b2]⟩
    have h1' := h1
    simp only [Dat] at h1'
    obtain ⟨t, ys, rfl, ta, ra⟩ := h1'
    obtain ⟨w, zs, rfl, dw, _⟩ := ra.cons_inv
    have ew : w = .int k := by simpa only [Dat] using dw
    subst ew
    obtain ⟨it2, rv2, ht, _⟩ := I.tuple ta.sq
    obtain ⟨u0, e0, r0⟩ := rv2.get (i := 0) rfl
    obtain ⟨tk, rfl⟩ := r0
    have eu : u = .ref t := rx
    subst eu
    refine ⟨t, _, tk, rfl, fun z => ?_, ht, by simpa using e0⟩
    obtain ⟨o2, q1, q2, _⟩ := ht
    rw [z, ho] at q1
    cases q1
    rw [hc] at q2
    exact absurd q2 (by decide)
theorem mt_sortHd {mk : Addr → LM} {p : Str} {k : Nat} (hr : Room k X.A) (L : ∀ c, IsHd0 (mk c) p) (hcd : ∀ c, (mk c).cd = c) (hd : (p == ("__debug__" : Str)) = false) : MtK0 X "list.sort" [Str.ofString "key"] (rSortHd X.K mk) := by
  intro pins s σ H x zs v ws Q I rx rz h
  obtain ⟨a, f, c', xs, M, ds, rfl, rfl, ha, hf, hc, rd, hi, q⟩ := h
  cases rx
  obtain ⟨w1, rfl, e1⟩ := vals1 rz
  obtain rfl : w1 = Value.ref f := e1
  obtain ⟨hz, its, n, rv, hob⟩ := I.hok a _ ha
  obtain ⟨⟨pm, ctv, of⟩, _, _⟩ := I.hok f _ hf
  have oc := NdefX.codeO_at I.hok hc
  obtain ⟨ei, es⟩ := hd_items I hob rfl rv rd hi
  have bl : (xs.zip ds).length = its.length := ei.length.symm
  have nf : f ≠ a := ne_of hf ha (fun z => by cases z)
  have nc : c' ≠ a := ne_of hc ha (fun z => by cases z)
  have lim : ∀ g : Heap, PySem.W.KeepsBut a s.heap g → g.NoLimit := fun g kp => I.ok.mod.nolimit.keeps fun b o e => kp b o (fun z => by
    have := (I.bs b o e).2
    rw [z, ha] at this
    cases this) (I.bk b o e)
  have keyOf : ∀ b ∈ xs.zip ds, ∃ k r, b.2 = .tuple (.int k :: r) := fun b hb => by
    have m : b.2 ∈ ds := by
      rw [← es]
      exact List.mem_map_of_mem hb
    exact intHd_un (List.all_eq_true.mp hi _ m)
  refine PySem.W.list_sort_key_data (fun b : V × D => hd0 b.2) hob ei (fun d hd d' hd' => ?_) (.inr fun d hd => ?_) (by rw [bl]; rw [← rv.length]; exact hz) (fun b hb => ?_) (PyProof.Rows.ksk_l1 _ _) (PyProof.Rows.ksk_t1 _ _) (fun u b hR hb g tk kp => ?_) fun out c h' tk kp hD hl eo => ?_
  · obtain ⟨b, hb, rfl⟩ := List.mem_map.mp hd
    obtain ⟨b', hb', rfl⟩ := List.mem_map.mp hd'
    obtain ⟨k, r, e⟩ := keyOf b hb
    obtain ⟨k', r', e'⟩ := keyOf b' hb'
    rw [e, e']
    rfl
  · obtain ⟨b, hb, rfl⟩ := List.mem_map.mp hd
    obtain ⟨k, r, e⟩ := keyOf b hb
    rw [e]
    show PyData.int k ≠ .none ∧ ∀ xs, PyData.int k ≠ .tuple xs
    exact ⟨(by simp), (by simp)⟩
  · obtain ⟨k, r, e⟩ := keyOf b hb
    rw [e]
    have := hr.un
    show X.A.units + 1 + 0 < cLine
    omega
  · obtain ⟨_, k, r, e, x⟩ := hR
    rw [e]
    exact hd0_turn (F := mk c') (pm := pm) (ctv := ctv) (L c') hd (by have := hr.dp; show X.A.depth < _; omega) nf (by rw [hcd]; exact nc) of (by rw [hcd]; exact oc) lim x g tk kp
  · have eo2 : PySem.W.EachIs (fun (v : Value) (b : V × D) => RelV b.1 v ∧ Dat X.K M H b.2 b.1) out ((xs.zip ds).mergeSort (PySem.W.dataLe false fun b => hd0 b.2)) := eo.mono fun v b z => z.1
    obtain ⟨f1, f2⟩ := outs_of eo2
    have em : ((xs.zip ds).mergeSort (PySem.W.dataLe false fun b : V × D => hd0 b.2)).map Prod.snd = sortHd ds := by
      unfold sortHd
      have t := List.map_mergeSort (r := PySem.W.dataLe false fun b : V × D => hd0 b.2) (s := PySem.W.dataLe false hd0) (f := Prod.snd) (l := xs.zip ds) (fun a _ b _ => rfl)
      rw [t, es]
    rw [em] at f2
    have len : (((xs.zip ds).mergeSort (PySem.W.dataLe false fun b : V × D => hd0 b.2)).map Prod.fst).length ≤ sizeLine := by
      rw [List.length_map, List.length_mergeSort, bl, ← rv.length]
      exact hz
    exact ⟨.non, upd H a (.lst (((xs.zip ds).mergeSort (PySem.W.dataLe false fun b : V × D => hd0 b.2)).map Prod.fst)), I.write (e := a) (t' := tk) (by rw [ha]; trivial) (.inl rfl) (fun b u hb hu => kp b u hb hu) ⟨_, hD⟩ ⟨len, out, c, f1, hD⟩, rfl, q _ f2⟩
end
/-- a lambda's one name, looked at -/
def lam1B (sc : Scope) (p : Str) : Bool := decide (sc.kind = .function) && (!sc.isCoroutine && (!sc.isGenerator && ((sc.names.all fun y => !decide (y.2 = .cell)) && decide (sc.names.lookup p = some .local))))
theorem lam1_of {pars : Arguments} {sc : Scope} {p : Str} (h : lam1B sc p = true) (hb : ∀ (q : Str) (ex : Expr) (cl : List (Str × Addr)) (pm cv ctv u : Value), bindArgs (PySem.W.kla_fn "<lambda>" q pars ex sc cl pm cv ctv) ⟨[u], []⟩ = pure [(p, u)]) : Lam1 pars sc p := by
  unfold lam1B at h
  simp only [Bool.and_eq_true, Bool.not_eq_true', decide_eq_true_eq, decide_eq_false_iff_not, List.all_eq_true] at h
  obtain ⟨h1, h2, h3, h4, h5⟩ := h
  exact ⟨h1, h2, h3, h4, h5, hb⟩
section
variable [Reg] [TabC] {X : Cx} {W : WX}
/-- x.sort(key=lambda p: p[0]) -/
def sSortHd (v : Nat) : Fs := fun δ => if isLst δ v = true then onList v δ fun ds => if ds.all intHd = true then .next (putD v (.list (sortHd ds)) δ) else .bad else .bad
theorem ds_sortHd {nm : Nat → Nat → Str} {Pt : Addr} {q : Str} {mk : Addr → LM} {x : Str} {pars : Arguments} {ex : Expr} {sc : Scope} {lpos p p2 p3 kp pos : Pos} {v : Nat} (hT : TabC.T = [(Pt, nm)]) (hq : ∀ c, (mk c).qual = q)
    (hp : PS X (.Expr (.Call (.Attribute (.Name x p) "sort" p2) [] [⟨some "key", .Lambda pars ex sc lpos, kp⟩] p3) pos) (tDrop (tBMK0 X.K "list" (rSortHd X.K mk) (tVar v) (tCons (tLamK [(Pt, nm)] q mk) tNil)))) :
    DS X W (.Expr (.Call (.Attribute (.Name x p) "sort" p2) [] [⟨some "key", .Lambda pars ex sc lpos, kp⟩] p3) pos) (sSortHd v) := by
  refine PS.imp hp fun σ H E ⟨Mi, δ, R, q⟩ => ?_
  unfold sSortHd at q
  split at q
  · rename_i hl
    unfold onList at q
    split at q
    · rename_i ds hd
      dsimp only at q
      split at q
      · rename_i hi
        obtain ⟨a, c, sa, ec, hc, ma, xs, e1, rx⟩ := lend_slot R hd
        refine ⟨.ref a, sa, .inl ⟨rfl, xs, .inl (.inl e1)⟩, by rw [← hT]; exact R.tab, fun f c' H1 eN nn T1 f0 f1 c1 => ?_⟩
        have g := Go.gr R (H' := H1) ⟨eN, by rw [hT]; exact T1, nn⟩
        obtain ⟨a1, c2, sa1, ec1, hc1, ma1, ys, ey, ry⟩ := lend_slot g.rep hd
        rw [sa] at sa1
        cases sa1
        refine ⟨a, f, c', ys, _, ds, rfl, rfl, ey, f1, by rw [hq]; exact c1, ry, hi, fun zs rz => RunS.go g q σ _ ?_⟩
        rw [putD_eq ec1]
        exact Go.write g.rep ec1 hc1 sa ⟨_, upd_same, rz.mv (Mv.updM ma1)⟩
      · exact q.elim
    · exact q.elim
  · exact q.elim
end
end Dl

set_option Elab.async false
set_option linter.all false
set_option maxRecDepth 100000
set_option maxHeartbeats 2000000
/-! Dl99: for a, *b in tuples; min of a dict of texts; x.insert(i, e). -/
namespace Dl
open PySem PySem.Spec PyProof.Rows L2 TL
section
variable [Reg] [TabC] {X : Cx} {W : WX} {Mi : Msk} {σ : St} {H H1 : Hp} {δ δ1 : DEnv} {body : List Stmt} {F : Fs} {pos : Pos}
/-! ### for a, *b in .. -/
/-- a target that may make new things -/
def tBH (X : Cx) (B : Bd) : TG := fun v σ H Q => ∃ Mi d δ, Rep X.K Mi σ H δ ∧ Dat X.K (msk Mi σ δ) H d v ∧ ∃ δ', B d δ = some δ' ∧ ∀ σ' H', Go X.K Mi Mi σ H δ σ' H' δ' → Q σ' H'
def DGH (X : Cx) (t : Expr) (B : Bd) : Prop := PG X t (tBH X B)
def bStar (i j : Nat) : Bd := fun d δ =>
  match d with
  | .tuple (x :: ds) => if ds.length ≤ 16000 ∧ free δ i = true ∧ free δ j = true ∧ i ≠ j then some ((δ.set i (some (.val x))).set j (some (.val (.list ds)))) else none
  | _ => none
theorem dg_star {i j k : Nat} {x y : Str} {p q r : Pos} (hc : X.calm = true) (hN : X.N.Nodup) (hi : X.N[i]? = some x) (hj : X.N[j]? = some y) (hx : Loc X.env.scope x) (hy : Loc X.env.scope y)
    (hf : X.fn x = true ∨ X.env.scope.names.lookup x = some .local := by first | exact .inl rfl | exact .inr rfl | assumption)
    (hg : X.fn y = true ∨ X.env.scope.names.lookup y = some .local := by first | exact .inl rfl | exact .inr rfl | assumption) : DGH X (.Tuple [.Name x p, .Starred (.Name y q) r] k pos) (bStar i j) := by
  refine PG.imp (pg_star hc hN hi hj hx hy hf hg) fun v σ H Q ⟨Mi, d, δ, R, dv, δ', e, w⟩ => ?_
  unfold bStar at e
  split at e
  · rename_i x1 ds
    obtain ⟨⟨hl, fi, fj, ne⟩, e⟩ := some_if e
    subst e
    obtain ⟨i1, i2⟩ := free_un fi
    simp only [Dat] at dv
    obtain ⟨a, ys, rfl, l, ra⟩ := dv
    obtain ⟨v1, xs, rfl, r1, rs⟩ := DatAll.cons_inv ra
    refine ⟨a, v1, xs, rfl, l.sq, by rw [rs.length]; exact hl, fun b nb => ?_⟩
    have g1 := Go.store R i1 i2 r1
    obtain ⟨j1, j2⟩ := free_un (free_set (i := i) fj (c := .val x1) rfl)
    exact w _ _ (g1.trans (Go.list g1.rep (rs.mv (g1.mv R)) j1 j2 nb))
  · cases e
theorem for_rdH {I : Fe (List D)} {B : Bd} {E : Ends} {σ0 : St} {H0 : Hp} (q0 : tS X W (sFor I B F) E σ0 H0) : tFor (tG X W (pI X) I) (tBH X B) (tS X W F) E σ0 H0 := by
  obtain ⟨Mi0, δ0, R0, q0⟩ := tS_bind (P := pI X) q0
  refine ⟨Mi0, δ0, R0, q0.imp fun J H1 ⟨Mi, ds, δ1, R1, p, r⟩ => ?_⟩
  have p' : ItR X (msk Mi σ0 δ1) H1 J ds := p
  refine ⟨fun i m σ H => m = ds.length - i ∧ i ≤ ds.length ∧ ∃ δ, Go X.K Mi Mi σ0 H1 δ1 σ H δ ∧ RunS X W Mi σ H δ (sForL B F (ds.drop i) δ) E, ⟨ds.length, by simp, Nat.zero_le _, δ1, Go.refl R1, r⟩, ?_⟩
  rintro i m σ H ⟨rfl, hi, δ, g, q⟩
  obtain ⟨pi, ps⟩ := p' _ _ (g.mv R1) fun a z => g.rep.dom' z
  by_cases hlt : i < ds.length
  · have ei : ds[i]? = some ds[i] := List.getElem?_eq_getElem hlt
    obtain ⟨go, y⟩ := pi i _ ei
    have ed : ds.drop i = ds[i] :: ds.drop (i + 1) := List.drop_eq_getElem_cons hlt
    rw [ed] at q
    refine .inr ⟨go, fun σ' H' => ∃ δ, Go X.K Mi Mi σ0 H1 δ1 σ' H' δ ∧ RunS X W Mi σ' H' δ (sForL B F (ds.drop (i + 1)) δ) E, fun σ' H' h => ⟨ds.length - (i + 1), by omega, rfl, hlt, h⟩, fun x H2 hy => ?_⟩
    obtain ⟨al, dx⟩ := y x H2 hy
    have g2 := Go.al g.rep al
    have q2 := RunS.go g2 q
    unfold sForL at q2
    cases eb : B ds[i] δ with
    | none =>
      rw [eb] at q2
      exact q2.elim
    | some δ3 =>
      rw [eb] at q2
      refine ⟨Mi, _, δ, g2.rep, dx, δ3, eb, fun σ3 H3 g3 => ⟨Mi, δ3, g3.rep, ?_⟩⟩
      have gg := g2.trans g3
      have q3 : RunS X W Mi σ3 H3 δ3 (match F δ3 with | .next δ2 => sForL B F (ds.drop (i + 1)) δ2 | .cont δ2 => sForL B F (ds.drop (i + 1)) δ2 | .brk δ2 => .next δ2 | r => r) E := RunS.go g3 q2
      cases ef : F δ3 with
      | next δ4 =>
        rw [ef] at q3
        exact fun σ' H' g4 => ⟨δ4, g.trans (gg.trans g4), RunS.go g4 q3⟩
      | cont δ4 =>
        rw [ef] at q3
        exact fun σ' H' g4 => ⟨δ4, g.trans (gg.trans g4), RunS.go g4 q3⟩
      | brk δ4 =>
        rw [ef] at q3
        exact fun σ' H' g4 => q3 σ' H' g4
      | ret c δ4 =>
        rw [ef] at q3
        cases c with
        | val d => exact q3
        | own d => exact q3
        | ref d => exact q3
        | exc _ _ _ => exact q3
      | err x δ4 =>
        rw [ef] at q3
        exact q3
      | bad =>
        rw [ef] at q3
        exact q3
  · have e : i = ds.length := by omega
    subst e
    rw [List.drop_length] at q
    exact .inl ⟨ps, RunS.nx (δ' := δ) g.rep q⟩
theorem ds_forH {tg iter : Expr} {I : Fe (List D)} {B : Bd} (hp : PassesOwn (model X.prog X.w) X.A X.env X.xe) (hc : X.calm = true) (hi : DI X W tg iter I) (hg : DGH X tg B) (hb : DSs X W body F)
    (hs : ∀ x, foldedSetIterable iter X.env x = pure x := by intro _; rfl) : DS X W (.For tg iter body [] pos) (sFor I B F) :=
  PS.imp (ps_for hp hc hi hg hb hs) fun _ _ _ q => for_rdH q
/-! ### x.insert(i, e) -/
def sIns (v : Nat) (Fi Fv : Fe D) : Fs := fun δ =>
  if isLst δ v = true then (Fi δ).bindS fun i δ1 => (Fv δ1).bindS fun d δ2 => match i with
    | .int k => onList v δ2 fun ds => if (0 ≤ k ∧ k ≤ 1000000) ∧ ds.length < 1000000 then .next (putD v (.list (ds.take k.toNat ++ [d] ++ ds.drop k.toNat)) δ2) else .bad
    | _ => .bad
  else .bad
/-- what list.insert asks, as the kit tells it -/
def rIns : V → List V → Hp → VK → Prop := fun x vs H Q => ∃ (l : Addr) (xs : List V) (i : Int) (y : V), x = .ref l ∧ vs = [.int i, y] ∧ H l = some (.lst xs) ∧ xs.length < sizeLine ∧ 0 ≤ i ∧ i < 2 ^ 63 ∧ Q .non (upd H l (.lst (xs.take i.toNat ++ [y] ++ xs.drop i.toNat)))
theorem mt_ins : MtR X "list.insert" rIns := mt_insert
variable {x : Str} {p p2 p3 : Pos} {ei e : Expr} {Fi Fv : Fe D}
theorem ds_ins {v : Nat} (hp : PS X (.Expr (.Call (.Attribute (.Name x p) "insert" p2) [ei, e] [] p3) pos) (tDrop (tBM X.K "list" rIns (tVar v) (tCons (tG X W (pD X) Fi) (tCons (tG X W (pD X) Fv) tNil))))) :
    DS X W (.Expr (.Call (.Attribute (.Name x p) "insert" p2) [ei, e] [] p3) pos) (sIns v Fi Fv) := by
  refine PS.imp hp fun σ H E ⟨Mi, δ, R, q⟩ => ?_
  unfold sIns at q
  split at q
  · rename_i hl
    obtain ⟨d0, hl⟩ := isLst_un hl
    obtain ⟨a0, c0, sa, ec0, hc0, ma0, xs0, ex0, _⟩ := lend_slot R hl
    refine ⟨.ref a0, sa, .inl ⟨rfl, xs0, .inl (.inl ex0)⟩, Mi, δ, R, (RunS.bind (P := pD X) q).imp fun w H2 ⟨i, δ2, g2, pi, r2⟩ => ⟨Mi, δ2, g2.rep, (RunS.bind (P := pD X) r2).imp fun u H3 ⟨d, δ3, g3, pd, r3⟩ => ?_⟩⟩
    split at r3
    · rename_i k _
      have ew : w = .int k := by
        have : Dat X.K (msk Mi σ δ2) H2 (.int k) w := pi
        simpa only [Dat] using this
      subst ew
      unfold onList at r3
      split at r3
      · rename_i ds hl2
        dsimp only at r3
        obtain ⟨a2, c, sa2, ec, hc, ma, xs, ex, rx⟩ := lend_slot g3.rep hl2
        rw [sa] at sa2
        cases sa2
        split at r3
        · rename_i hh
          obtain ⟨⟨k0, k1⟩, hlt⟩ := hh
          refine ⟨a0, xs, k, u, rfl, rfl, ex, ?_, k0, by omega, r3 σ _ ?_⟩
          · rw [rx.length]
            exact Nat.lt_of_lt_of_le hlt (by decide)
          · rw [putD_eq ec]
            exact Go.write g3.rep ec hc sa ⟨_, upd_same, (((rx.take k.toNat).append (.cons pd .nil)).append (rx.drop k.toNat)).mv (Mv.updM ma)⟩
        · exact False.elim r3
      · exact False.elim r3
    · exact False.elim r3
  · exact q.elim
/-! ### min of a dict's keys, texts -/
def isTx : D → Bool
  | .str _ => true
  | _ => false
def minKD : List D → Option D
  | [.dict ((k, _) :: r)] => if isTx k = true ∧ (r.all fun p => isTx p.1) = true then some (PySem.W.minD k (r.map (·.1))) else none
  | _ => none
theorem isTx_un {d : D} (h : isTx d = true) : ∃ x, d = .str x := by
  unfold isTx at h
  split at h
  · exact ⟨_, rfl⟩
  · cases h
theorem keys_at {K : PySem.W.Frag} {M : Msk} {H : Hp} : ∀ {ds : List (D × D)} {kv : List (Key × V)} {vs : List (Key × Value)}, DatKV K M H ds kv → KV kv vs → (ds.all fun p => isTx p.1) = true →
    vs.length = ds.length ∧ ∀ (i : Nat) (k : Key) (x : Value), vs[i]? = some (k, x) → ∃ t, k = .inr t ∧ (ds.map (·.1))[i]? = some (.str t)
  | [], _, _, h, r, _ => by
    simp only [DatKV] at h
    subst h
    cases r
    exact ⟨rfl, fun i k x e => by simp at e⟩
  | (d, e) :: ds, _, _, h, r, ht => by
    simp only [DatKV] at h
    obtain ⟨j, v, t, rfl, ek, h1, h2⟩ := h
    cases r with
    | cons r1 r2 =>
      rename_i y ys
      obtain ⟨kk, vv⟩ := y
      simp only [List.all_cons, Bool.and_eq_true] at ht
      obtain ⟨a, b⟩ := keys_at h2 r2 ht.2
      refine ⟨by rw [List.length_cons, List.length_cons, a], fun i k x q => ?_⟩
      cases i with
      | zero =>
        simp only [List.getElem?_cons_zero, Option.some.injEq, Prod.mk.injEq] at q
        obtain ⟨q1, q2⟩ := q
        have r1' : j = kk := r1.1
        rw [← q1, ← r1']
        obtain ⟨z, ez⟩ := isTx_un ht.1
        rw [ez] at ek
        cases j with
        | inl n => cases ek
        | inr z2 =>
          cases ek
          refine ⟨_, rfl, ?_⟩
          rw [ez]
          rfl
      | succ i => exact b i k x (by simpa using q)
theorem call_minKD (ok : X.A.units + 64 < cLine) (hc : X.calm = true) : CallR X (.builtin "min") (rC X.K minKD) := by
  intro pins s σ H xs us Q I r z
  obtain ⟨M, ds, d, hm, ps, e, q⟩ := z
  unfold minKD at e
  split at e
  · rename_i k0 x0 rr
    obtain ⟨⟨t0, tr⟩, e⟩ := some_if e
    have hT : ((k0, x0) :: rr).all (fun p => isTx p.1) = true := by
      simp only [List.all_cons, Bool.and_eq_true]
      exact ⟨t0, tr⟩
    have hno : noT ((k0, x0) :: rr) = true := by
      obtain ⟨z, ez⟩ := isTx_un t0
      rw [ez]
      rfl
    obtain ⟨v, rfl, pv⟩ := PkAll.one (ds := []) (v := .non) ps
    cases r with
    | cons r1 r0 =>
      cases r0
      obtain ⟨a, kv, rfl, rd, dk⟩ := Pk.dict pv hno
      cases r1
      obtain ⟨hz, hsm, vs, rkv, o, es, ep, ho, hex, hdat, hks, hpr, hnd⟩ := rd.ok I.hok
      obtain ⟨len, at_⟩ := keys_at dk rkv hT
      have hat : s.heap.DictAt (mixKind X.prog X.w) a vs ep := ⟨o, es, ho, hex, hdat, hks, hpr, hnd⟩
      have hlt : a < s.heap.objs.size := Heap.lt_size ho
      have hne : a ≠ s.heap.objs.size := Nat.ne_of_lt hlt
      have hn : vs.length = rr.length + 1 := by rw [len]; rfl
      have key : ∀ i u, (∃ k x, vs[i]? = some (k, x) ∧ (mixKind X.prog X.w).is k u = true) → ∃ t tk, u = .str t tk ∧ (k0 :: rr.map (·.1)).getD i .none = .str t := fun i u ⟨k, x, e1, e2⟩ => by
        obtain ⟨t, rfl, et⟩ := at_ i k x e1
        have e3 : keyIs (.inr t) u = true := e2
        rcases keyIs_shape e3 with ⟨n, tk, q1, _⟩ | ⟨y, tk, q1, q2⟩
        · cases q1
        · cases q1
          refine ⟨_, tk, q2, ?_⟩
          rw [List.getD_eq_getElem?_getD]
          have et' : (k0 :: rr.map (·.1))[i]? = some (.str t) := et
          rw [et']
          rfl
      refine PySem.call_min_walkH (wpAny_pyIter_dict (knd := mixKind X.prog X.w) hsm hat ⟨s.heap.objs.size, [s.heap.objs.size, a], [s.heap.objs.size], fun a b => b = a, vs.length, _, _, s.heap, fun i j => PySem.W.dataLt ((k0 :: rr.map (·.1)).getD i .none) ((k0 :: rr.map (·.1)).getD j .none), rfl,
        (Walks.dictKeys (knd := mixKind X.prog X.w) (A := X.A.in1) (I.ok.hd hc) s.heap.objs.size a hne vs ep).toS, ⟨⟨_, Heap.get?_push_size _ rfl, rfl, rfl⟩, o, es, Heap.get?_push_of_some _ ho, hex, hdat, hks, hpr, hnd⟩, fun b hb => ?_, by omega, fun b ob eb hb => ?_, fun b ob eb => Heap.get?_push_of_some _ eb, fun i j vi vj s' Q' E' hk hi hj hq => ?_, fun u s' hP m => ?_⟩)
      · show b < (s.heap.push _).objs.size
        rw [Heap.size_push]
        rcases List.mem_cons.mp hb with rfl | hb
        · exact Nat.lt_succ_self _
        · rcases List.mem_cons.mp hb with rfl | hb
          · exact Nat.lt_succ_of_lt hlt
          · cases hb
      · exact absurd (Heap.lt_size eb) ((List.mem_singleton.mp hb) ▸ Nat.lt_irrefl _)
      · obtain ⟨t1, k1, rfl, g1⟩ := key i vi hi
        obtain ⟨t2, k2, rfl, g2⟩ := key j vj hj
        dsimp only at hq
        rw [g1, g2] at hq
        exact PySem.W.rcLt_alike (.str t1) (.str t2) X.A.in1 s' _ _ _ _ (.str t1 k1) (.str t2 k2) rfl (by simp) (by show X.A.units + 1 + min 0 0 < cLine; simp; omega) _ _ _ _ hq
      · obtain ⟨h', tk, rfl, hk'⟩ := PySem.W.moved_old rfl rfl m
        obtain ⟨t, k1, rfl, g1⟩ := key _ u hP
        have e1 : vs.length - 1 = (rr.map (·.1)).length := by rw [List.length_map]; omega
        have e2 := (PySem.W.argBest_fold PySem.W.dataLt PyData.none k0 (rr.map (·.1)) (rr.map (·.1)).length (Nat.le_refl _)).2
        rw [List.take_length] at e2
        rw [e1] at g1
        have ed : d = .str t := by
          rw [← e]
          exact e2.symm.trans g1
        exact ⟨.str t, H, I.kept hk', ⟨k1, rfl⟩, q _ H Al.refl (by rw [ed]; simp only [Dat])⟩
  · cases e
end
/-- a lambda that captures nothing -/
theorem lamNoFree {X : Cx} {sc : Scope} (h : (sc.names.all fun y => !decide (y.2 = .free)) = true) : X.Ok → ∀ y ∈ sc.names, y.2 = .free → ∃ c, X.env.cells.lookup y.1 = some c := fun _ y hy e => by
  have := List.all_eq_true.mp h y hy
  rw [e] at this
  exact absurd this (by decide)
section
variable [Reg] [TabC] {X : Cx} {W : WX}
/-- what gen.py prints for x.sort(key=lambda p: p[0]) -/
theorem ds_sortHdX {nm : Nat → Nat → Str} {c Pt : Addr} {x pn : Str} {pars : Arguments} {ex : Expr} {sc : Scope} {lpos p p2 p3 kp pos : Pos} {v k : Nat} {pl : Sem Bool} (tb : LamX.TabB X.base X.mg c Pt) (hcode : X.env.code = .ref c) (hT : TabC.T = [(Pt, nm)]) (hn : nm lpos.line lpos.col = X.env.qual ++ "<lambda>")
    (hr : Room k X.A) (hl : lam1B sc pn = true) (hb : ∀ (q : Str) (e : Expr) (cl : List (Str × Addr)) (pm cv ctv u : Value), bindArgs (PySem.W.kla_fn "<lambda>" q pars e sc cl pm cv ctv) ⟨[u], []⟩ = pure [(pn, u)]) (hex : ∃ p1 p2 p3 j, ex = .Subscript (.Name pn p1) (.Constant (.int 0) j p2) p3)
    (hN : X.N[v]? = some x) (hv : Vis X.env.scope x) (hdef : defaultsOf pars X.env = ([], [])) (hfree : (sc.names.all fun y => !decide (y.2 = .free)) = true) (hd : (pn == ("__debug__" : Str)) = false)
    (hxd : (x == ("__debug__" : Str)) = false := by decide +kernel) (hxc : (x == ("__classdict__" : Str)) = false := by decide +kernel)
    (he : eval (.Call (.Attribute (.Name x p) "sort" p2) [] [⟨some "key", .Lambda pars ex sc lpos, kp⟩] p3) X.env = (do
      let ov ← eval (.Name x p) X.env
      standAt p2.atName
      let (f, first) ← holding [ov] (getMethod ov "sort" pl)
      callWith p3 f first (backTo p3 (starEach [] X.env)) (backToKw p3 (keywordEach [⟨some "key", .Lambda pars ex sc lpos, kp⟩] X.env))) := by rfl)
    (hnone : (backToKw p3 (keywordEach [⟨some "key", .Lambda pars ex sc lpos, kp⟩] X.env)).any (·.1.isNone) = false := by rfl) (hall : (backToKw p3 (keywordEach [⟨some "key", .Lambda pars ex sc lpos, kp⟩] X.env)).all (·.1.isSome) = true := by rfl) (hks : (backToKw p3 (keywordEach [⟨some "key", .Lambda pars ex sc lpos, kp⟩] X.env)).filterMap (·.1) = [Str.ofString "key"] := by rfl) :
    DS X W (.Expr (.Call (.Attribute (.Name x p) "sort" p2) [] [⟨some "key", .Lambda pars ex sc lpos, kp⟩] p3) pos) (sSortHd v) :=
  ds_sortHd (q := X.env.qual ++ "<lambda>") (mk := fun c' => ⟨X.env.qual ++ "<lambda>", pars, ex, sc, cloFrom X.env.cells sc.names [], c'⟩) hT (fun _ => rfl) (ps_expr (pe_bm0K PySem.F.plainAttrs_list PySem.F.slot_list_sort PySem.F.type_list_sort (mt_sortHd (p := pn) hr (fun _ => ⟨lam1_of hl hb, hex⟩) (fun _ => rfl) hd) (pe_var (i := v) hN hv hxd hxc)
    (pk_cons (pe_lamK tb hcode hn hdef (lamNoFree hfree)) pk_nil) he hnone hall hks))
end
/-! ### d == {} -/
section
variable [TabC] {X : Cx}
def eqK (a b : D) : Option D :=
  match a, b with
  | .dict ds, .dict [] => if noT ds = true then some (.bool ds.isEmpty) else eqF (.dict ds) (.dict [])
  | a, b => eqF a b
theorem eqK_un {a b d : D} (e : eqK a b = some d) : (∃ ds, a = .dict ds ∧ b = .dict [] ∧ noT ds = true ∧ d = .bool ds.isEmpty) ∨ eqF a b = some d := by
  unfold eqK at e
  split at e
  · split at e
    · rename_i h
      cases e
      exact .inl ⟨_, rfl, rfl, h, rfl⟩
    · exact .inr e
  · exact .inr e
theorem dkv_len {K : PySem.W.Frag} {M : Msk} {H : Hp} : ∀ {ds : List (D × D)} {kv : List (Key × V)}, DatKV K M H ds kv → kv.length = ds.length
  | [], _, h => by
    simp only [DatKV] at h
    rw [h]
    rfl
  | (_, _) :: ds, _, h => by
    simp only [DatKV] at h
    obtain ⟨_, _, t, rfl, _, _, h2⟩ := h
    rw [List.length_cons, List.length_cons, dkv_len h2]
theorem op_eqK (hu : X.A.units + 64 < cLine) : OpR X (compareOp .Eq) (rD X.K eqK) := by
  intro pins s σ H x y v u Q I rx ry ⟨M, da, db, d, hm, px, py, e, q⟩
  rcases eqK_un e with ⟨ds, rfl, rfl, hno, rfl⟩ | e
  · obtain ⟨a, kv, rfl, rd, dk⟩ := Pk.dict px hno
    obtain ⟨b, kw, rfl, rd2, dk2⟩ := Pk.dict py rfl
    cases rx
    cases ry
    obtain ⟨hz, hsm, vs, rkv, da⟩ := rd.ok I.hok
    obtain ⟨hz2, hsm2, ws, rkw, db⟩ := rd2.ok I.hok
    have l1 : vs.length = ds.length := by
      have z : kv.length = vs.length := Paired.length rkv
      rw [← z, dkv_len dk]
    have l2 : ws = [] := by
      have z : kw.length = ws.length := Paired.length rkw
      rw [dkv_len dk2] at z
      exact List.length_eq_zero_iff.mp z.symm
    subst l2
    have e1 : (vs.length == ([] : List (Key × Value)).length && true) = ds.isEmpty := by
      rw [l1]
      cases ds <;> rfl
    refine PySem.W.rcP_dicts (r := true) hsm hsm2 da db (by omega) (fun h => ?_) _ _ ?_
    · have z : vs = [] := List.length_eq_zero_iff.mp h
      rw [z]
      exact .nil
    · rw [e1]
      exact ⟨.bl _, H, I, rfl, q _ H Al.refl .mkBool⟩
  · exact op_eqA hu pins s σ H x y v u Q I rx ry ⟨M, da, db, d, hm, px, py, e, q⟩
end
end Dl

set_option Elab.async false
set_option linter.all false
set_option maxRecDepth 100000
set_option maxHeartbeats 0
/-! Dl100: drawn makes of the laws k61 .. k66 and of the halls: their faces, rows by rows. -/
namespace Dl.Fc
open PySem PySem.Spec PyProof.Rows L2 TL
open Kd (dt df)
open Lf (strL)
/-! ### data whose text is short -/
mutual
def tinyB : D → Bool
  | .none | .bool _ => true
  | .int i => decide (i.natAbs < 2 ^ 30)
  | .str x => x.cps.toList.all fun c => decide (c < 4294967296)
  | .list ds | .tuple ds => tinyA ds
  | .dict _ => false
def tinyA : List D → Bool
  | [] => true
  | d :: ds => tinyB d && tinyA ds
end
mutual
def szT : D → Nat
  | .none | .bool _ => 5
  | .int _ => 40
  | .str x => 10 * x.length + 2
  | .list ds | .tuple ds => szTA ds + 5
  | .dict _ => 0
def szTA : List D → Nat
  | [] => 0
  | d :: ds => szT d + 2 + szTA ds
end
mutual
theorem tiny_good : ∀ {d : D}, tinyB d = true → good d = true
  | .none, _ => rfl
  | .bool _, _ => rfl
  | .int i, h => Df.small_good (by simpa only [tinyB, decide_eq_true_eq] using h)
  | .str x, h => by simpa only [tinyB, good] using h
  | .list ds, h => by
    simp only [good]
    exact tiny_goodA (ds := ds) (by simpa only [tinyB] using h)
  | .tuple ds, h => by
    simp only [good]
    exact tiny_goodA (ds := ds) (by simpa only [tinyB] using h)
  | .dict _, h => by simp [tinyB] at h
theorem tiny_goodA : ∀ {ds : List D}, tinyA ds = true → goodAll ds = true
  | [], _ => rfl
  | d :: ds, h => by
    simp only [tinyA, Bool.and_eq_true] at h
    simp only [goodAll, Bool.and_eq_true]
    exact ⟨tiny_good h.1, tiny_goodA h.2⟩
end
mutual
theorem tiny_le : ∀ {d : D}, tinyB d = true → d.shown.length ≤ szT d
  | .none, _ => by
    simp only [PyData.shown, szT]
    decide
  | .bool b, _ => by
    simp only [PyData.shown, szT]
    cases b <;> decide
  | .int i, h => by
    simp only [szT]
    exact Df.small_len (by simpa only [tinyB, decide_eq_true_eq] using h)
  | .str x, h => by
    simp only [PyData.shown, szT]
    refine StrLaws.reprText_len x fun c hc => ?_
    simp only [tinyB, List.all_eq_true, decide_eq_true_eq] at h
    exact h c hc
  | .list ds, h => by
    simp only [PyData.shown, szT]
    have ih := tinyA_le (ds := ds) (by simpa only [tinyB] using h)
    have := from_len (PyData.shownAll ds) 0 "["
    show (textFrom 0 "[" (PyData.shownAll ds) ++ "]").length ≤ _
    rw [len_add]
    have e1 : (Str.ofString "[").length = 1 := rfl
    have e2 : (Str.ofString "]").length = 1 := rfl
    omega
  | .tuple ds, h => by
    simp only [PyData.shown, szT]
    have ih := tinyA_le (ds := ds) (by simpa only [tinyB] using h)
    have := joinLen (PyData.shownAll ds)
    show (("(" : Str) ++ Str.join ", " (PyData.shownAll ds) ++ (if (PyData.shownAll ds).length == 1 then ",)" else ")" : String)).length ≤ _
    rw [len_add, len_add]
    have e1 : (Str.ofString "(").length = 1 := rfl
    have e2 : (Str.ofString (if (PyData.shownAll ds).length == 1 then ",)" else ")" : String)).length ≤ 2 := by split <;> decide
    omega
  | .dict _, h => by simp [tinyB] at h
theorem tinyA_le : ∀ {ds : List D}, tinyA ds = true → ((PyData.shownAll ds).map fun t => t.length + 2).sum ≤ szTA ds
  | [], _ => by simp [PyData.shownAll, szTA]
  | d :: ds, h => by
    simp only [tinyA, Bool.and_eq_true] at h
    have a := tiny_le h.1
    have b := tinyA_le h.2
    simp only [PyData.shownAll, szTA, List.map_cons, List.sum_cons]
    omega
end
def T1 (d : D) (m : Nat) : Prop := tinyB d = true ∧ szT d ≤ m
def TA (ds : List D) (m : Nat) : Prop := tinyA ds = true ∧ szTA ds ≤ m
theorem T1.mono {d : D} {m n : Nat} (h : T1 d m) (l : m ≤ n) : T1 d n := ⟨h.1, Nat.le_trans h.2 l⟩
theorem T1.int {i : Int} (h0 : -1000000100 ≤ i) (h1 : i ≤ 1000000100) : T1 (.int i) 40 := ⟨by
  simp only [tinyB, decide_eq_true_eq]
  omega, by simp only [szT]; omega⟩
theorem T1.tup {ds : List D} {m : Nat} (h : TA ds m) : T1 (.tuple ds) (m + 5) := ⟨by simpa only [tinyB] using h.1, by
  have := h.2
  simp only [szT]
  omega⟩
theorem T1.lst {ds : List D} {m : Nat} (h : TA ds m) : T1 (.list ds) (m + 5) := ⟨by simpa only [tinyB] using h.1, by
  have := h.2
  simp only [szT]
  omega⟩
theorem TA.nil : TA [] 0 := ⟨rfl, Nat.le_refl _⟩
theorem TA.cons {d : D} {ds : List D} {m n : Nat} (h : T1 d m) (t : TA ds n) : TA (d :: ds) (m + 2 + n) := ⟨by
  simp only [tinyA, Bool.and_eq_true]
  exact ⟨h.1, t.1⟩, by
  have h1 := h.2
  have h2 := t.2
  simp only [szTA]
  omega⟩
theorem TA.all {k : Nat} : ∀ {ds : List D}, (∀ d ∈ ds, T1 d k) → TA ds (ds.length * (k + 2))
  | [], _ => by simpa using TA.nil
  | d :: ds, h => by
    have a := TA.cons (h d List.mem_cons_self) (TA.all (ds := ds) fun d m => h d (List.mem_cons_of_mem _ m))
    refine ⟨a.1, Nat.le_trans a.2 ?_⟩
    rw [List.length_cons, Nat.add_mul]
    omega
theorem T1.lit {s : Str} (h : tinyB (.str s) = true) (l : s.length ≤ 10) : T1 (.str s) 102 := ⟨h, by
  simp only [szT]
  omega⟩
/-- repr tells it -/
theorem T1.repr {d : D} {m : Nat} (h : T1 d m) (hd : d.depth ≤ 60) (hm : m ≤ 1000000) : reprG [d] = some (.str d.shown) := by
  have p := good_plain (tiny_good h.1)
  exact if_pos ⟨p.2, hd, Nat.le_trans (tiny_le h.1) (Nat.le_trans h.2 hm)⟩
theorem T1.plain {d : D} {m : Nat} (h : T1 d m) : d.plain = true := (good_plain (tiny_good h.1)).1
abbrev TS (n : Str) : Prop := T1 (.str n) 102
theorem ab_t {n : Str} (h : n ∈ (["a", "ab", "b"] : List Str)) : TS n := by
  simp only [List.mem_cons, List.not_mem_nil, or_false] at h
  rcases h with rfl | rfl | rfl <;> exact T1.lit (by decide +kernel) (by decide)
theorem two_t {n : Str} (h : n ∈ (["a", "b"] : List Str)) : TS n := ab_t (by
  simp only [List.mem_cons, List.not_mem_nil, or_false] at h ⊢
  rcases h with h | h
  · exact .inl h
  · exact .inr (.inr h))
theorem TA.strs {ws : List Str} {n : Nat} (h : ∀ w ∈ ws, TS w) (hl : ws.length ≤ n) : TA (strL ws) (n * 104) := by
  have a := TA.all (ds := strL ws) (k := 102) (fun d m => by
    obtain ⟨w, mw, rfl⟩ := List.mem_map.mp m
    exact h w mw)
  refine ⟨a.1, Nat.le_trans a.2 ?_⟩
  have e : (strL ws).length = ws.length := List.length_map _
  rw [e]
  exact Nat.mul_le_mul_right _ hl
/-! zalike: 0 zfound 1 zdue -/
def F_zalike : Fs :=
  (sRet (fAndV (fBin eqF (pkVar 0) (pkVar 1)) (fBin eqF (fOf (fCall reprG (lCons (pkVar 0) lNil))) (fOf (fCall reprG (lCons (pkVar 1) lNil))))))
def m_zalike : Mir := mir 2 2 F_zalike
/-! znames: 0 zbag_here 1 zmany 2 zfound 3 zk 4 zsize 5 zj 6 zname -/
def I_znames_1 : Fe (List D) := (iRng1 (rdVar 4))
def E_znames_1 : Fe D := (fBin itF (fOf (fC (.str "abcdefghijklmnopqrstuvwxyz"))) (fOf (fR Df.m_ztake 0 0 toVal (apHead 0 (fCons (fC (.int 26)) fNil)))))
def C_znames_1 : Fe D := (fComp [5] I_znames_1 (bName 5) fYes E_znames_1)
def I_znames_2 : Fe (List D) := (iRng1 (rdVar 1))
def Y_znames_2 : Fs := (sSeq (sSet 4 (fBin addF (fOf (fC (.int 1))) (fOf (fR Df.m_ztake 0 0 toVal (apHead 0 (fCons (fBin itF (fOf (fLst (fCons (fC (.int 1)) (fCons (fC (.int 2)) (fCons (fC (.int 8)) fNil))))) (fOf (fR Df.m_ztake 0 0 toVal (apHead 0 (fCons (fC (.int 3)) fNil))))) fNil))))))
  (sApp 2 (fMeth "str" joinM (fOf (fC (.str ""))) (lCons (fOf C_znames_1) lNil))))
def L_znames_2 : Fs := (sFor I_znames_2 (bName 3) Y_znames_2)
def I_znames_3 : Fe (List D) := (iEnumL (fCons (rdVar 2) fNil))
def E_znames_3 : Fe D := (rdVar 6)
def T_znames_3 : Fe Bool := (fB (fBin niF (pkVar 6) (fOf (fSlice (pkVar 2) ptNone (ptSome (rdVar 3))))))
def C_znames_3 : Fe D := (fComp [3, 6] I_znames_3 (bTup 2 (bCons (bName 3) (bCons (bName 6) bNil))) T_znames_3 E_znames_3)
def F_znames : Fs :=
  (sSeq (sSetO 2 (fBin repL (fOf (fLst (fCons (fC (.str "a")) fNil))) (fOf (fCall intF (lCons (fOf (fBin eqF (fOf (fR Df.m_ztake 0 0 toVal (apHead 0 (fCons (fC (.int 2)) fNil)))) (fOf (fC (.int 0))))) lNil)))))
  (sSeq L_znames_2
  (sSeq (sSetO 2 (fBin addL (pkVar 2) (fOf (fLst (fCons (fC (.str "ann")) (fCons (fC (.str "bob")) (fCons (fC (.str "cy")) (fCons (fC (.str "dan")) (fCons (fC (.str "eve")) fNil)))))))))
  (sRet (fSlice (fOf C_znames_3) ptNone (ptSome (rdVar 1)))))))
def m_znames : Mir := mir 2 7 F_znames
/-! znumber: 0 zbag_here 1 zway 2 zedge -/
def F_znumber : Fs :=
  (sSeq (sSet 1 (fR Df.m_ztake 0 0 toVal (apHead 0 (fCons (fC (.int 4)) fNil))))
  (sSeq (sSet 2 (fBin itF (fOf (fLst (fCons (fBin powF (fOf (fC (.int 10))) (fOf (fC (.int 9)))) (fCons (fUn negF (fOf (fBin powF (fOf (fC (.int 10))) (fOf (fC (.int 9)))))) (fCons (fC (.int 0)) (fCons (fC (.int 1)) fNil)))))) (fOf (fR Df.m_ztake 0 0 toVal (apHead 0 (fCons (fC (.int 4)) fNil))))))
  (sRet (fBin itF (fOf (fLst (fCons (fBin subF (fOf (fR Df.m_ztake 0 0 toVal (apHead 0 (fCons (fC (.int 20)) fNil)))) (fOf (fC (.int 8)))) (fCons (rdVar 2) (fCons (fC (.int 3)) (fCons (fBin subF (fOf (fR Df.m_ztake 0 0 toVal (apHead 0 (fCons (fBin addF (fOf (fBin mulG (fOf (fC (.int 2))) (fOf (fBin powF (fOf (fC (.int 10))) (fOf (fC (.int 9))))))) (fOf (fC (.int 1)))) fNil)))) (fOf (fBin powF (fOf (fC (.int 10))) (fOf (fC (.int 9)))))) fNil)))))) (pkVar 1)))))
def m_znumber : Mir := mir 1 3 F_znumber
/-! zshape: 0 zbag_here 1 zway 2 zleast -/
def F_zshape : Fs :=
  (sSeq (sSet 1 (fR Df.m_ztake 0 0 toVal (apHead 0 (fCons (fC (.int 4)) fNil))))
  (sSeq (sSet 2 (fBin subF (fOf (fR Df.m_ztake 0 0 toVal (apHead 0 (fCons (fC (.int 9)) fNil)))) (fOf (fC (.int 6)))))
  (sRet (fBin itF (fOf (fLst (fCons (fTup (fCons (fUn negF (fOf (fBin powF (fOf (fC (.int 10))) (fOf (fC (.int 9)))))) (fCons (fBin powF (fOf (fC (.int 10))) (fOf (fC (.int 9)))) fNil))) (fCons (fTup (fCons (fC (.int 0)) (fCons (fC (.int 9)) fNil))) (fCons (fTup (fCons (fUn negF (fOf (fC (.int 20)))) (fCons (fC (.int 40)) fNil))) (fCons (fTup (fCons (rdVar 2) (fCons (fBin addF (pkVar 2) (fOf (fR Df.m_ztake 0 0 toVal (apHead 0 (fCons (fC (.int 30)) fNil))))) fNil))) fNil)))))) (pkVar 1)))))
def m_zshape : Mir := mir 1 3 F_zshape
/-! zsome: 0 zbag_here 1 zwords 2 zmany 3 zword -/
def I_zsome_1 : Fe (List D) := (iAny (rdVar 1))
def E_zsome_1 : Fe D := (rdVar 3)
def T_zsome_1 : Fe Bool := (fB (fBin eqF (fOf (fR Df.m_ztake 0 0 toVal (apHead 0 (fCons (rdVar 2) fNil)))) (fOf (fC (.int 0)))))
def C_zsome_1 : Fe D := (fComp [3] I_zsome_1 (bName 3) T_zsome_1 E_zsome_1)
def F_zsome : Fs :=
  (sRet C_zsome_1)
def m_zsome : Mir := mir 3 4 F_zsome
/-! zturned: 0 zbag_here 1 zsome_here 2 zfound 3 zone -/
def I_zturned_1 : Fe (List D) := (iAny (rdVar 1))
def Y_zturned_1 : Fs := (sIns 2 (fR Df.m_ztake 0 0 toVal (apHead 0 (fCons (fBin addF (fOf (fCall lenF (lCons (pkVar 2) lNil))) (fOf (fC (.int 1)))) fNil))) (rdVar 3))
def L_zturned_1 : Fs := (sFor I_zturned_1 (bName 3) Y_zturned_1)
def F_zturned : Fs :=
  (sSeq (sSetO 2 (fLst fNil))
  (sSeq L_zturned_1
  (sRetV 2)))
def m_zturned : Mir := mir 2 4 F_zturned
/-! zany: 0 zbag_here 1 zsome_here -/
def F_zany : Fs :=
  (sRet (fBin itF (pkVar 1) (fOf (fR Df.m_ztake 0 0 toVal (apHead 0 (fCons (fCall lenF (lCons (pkVar 1) lNil)) fNil))))))
def m_zany : Mir := mir 2 2 F_zany
/-! zkept_row: 0 zbag_here 1 zword 2 zname 3 zleast 4 zmost 5 zfirst 6 zrow -/
def F_zkept_row : Fs :=
  (sSeq (sAsg (fR m_zshape 0 0 toVal (apHead 0 fNil)) (bTup 2 (bCons (bName 3) (bCons (bName 4) bNil))))
  (sSeq (sSet 5 (fBin addF (pkVar 3) (fOf (fR Df.m_ztake 0 0 toVal (apHead 0 (fCons (fBin addF (fOf (fCall minF (lCons (fOf (fBin subF (pkVar 4) (pkVar 3))) (lCons (fOf (fC (.int 12))) lNil)))) (fOf (fC (.int 1)))) fNil))))))
  (sSeq (sSet 6 (fTup (fCons (rdVar 1) (fCons (rdVar 2) (fCons (rdVar 3) (fCons (rdVar 4) (fCons (rdVar 5) fNil)))))))
  (sSeq (sIf (fB (fBin eqF (pkVar 1) (fOf (fC (.str "key"))))) (sSet 6 (fBin addF (pkVar 6) (fOf (fTup (fCons (fBin itF (fOf (fLst (fCons (fC (.str "kept")) (fCons (fC (.str "kept")) (fCons (fC (.str "anew")) fNil))))) (fOf (fR Df.m_ztake 0 0 toVal (apHead 0 (fCons (fC (.int 3)) fNil))))) fNil))))) sNext)
  (sRetV 6)))))
def m_zkept_row : Mir := mir 3 7 F_zkept_row
/-! zhook_row: 0 zbag_here 1 zhook 2 zpart 3 zparts 4 zothers 5 zbefores 6 zafters 7 zone -/
def I_zhook_row_1 : Fe (List D) := (iAny (fCall sortF (lCons (pkVar 3) lNil)))
def E_zhook_row_1 : Fe D := (rdVar 7)
def T_zhook_row_1 : Fe Bool := (fB (fBin neF (pkVar 7) (pkVar 2)))
def C_zhook_row_1 : Fe D := (fComp [7] I_zhook_row_1 (bName 7) T_zhook_row_1 E_zhook_row_1)
def I_zhook_row_2 : Fe (List D) := (iAny (rdVar 4))
def E_zhook_row_2 : Fe D := (rdVar 7)
def T_zhook_row_2 : Fe Bool := (fB (fBin niF (pkVar 7) (pkVar 5)))
def C_zhook_row_2 : Fe D := (fComp [7] I_zhook_row_2 (bName 7) T_zhook_row_2 E_zhook_row_2)
def F_zhook_row : Fs :=
  (sSeq (sSetO 4 C_zhook_row_1)
  (sSeq (sSet 5 (fR m_zsome 0 0 toVal (apHead 0 (fCons (rdVar 4) (fCons (fC (.int 7)) fNil)))))
  (sSeq (sSet 6 (fR m_zsome 0 0 toVal (apHead 0 (fCons C_zhook_row_2 (fCons (fC (.int 7)) fNil)))))
  (sRet (fBin addF (fOf (fTup (fCons (fC (.str "hook")) (fCons (rdVar 1) (fCons (fR Df.m_ztake 0 0 toVal (apHead 0 (fCons (fC (.int 3)) fNil))) (fCons (fCall tupleF (lCons (pkVar 5) lNil)) (fCons (fCall tupleF (lCons (pkVar 6) lNil)) fNil))))))) (fOf (fR m_zshape 0 0 toVal (apHead 0 fNil))))))))
def m_zhook_row : Mir := mir 4 8 F_zhook_row
/-! zstep: 0 zbag_here 1 zat 2 zmany 3 zway 4 zword -/
def F_zstep : Fs :=
  (sSeq (sSet 3 (fR Df.m_ztake 0 0 toVal (apHead 0 (fCons (fC (.int 15)) fNil))))
  (sSeq (sIf (fB (fBin ltF (pkVar 3) (fOf (fC (.int 3))))) (sRet (fTup (fCons (fBin itF (fOf (fLst (fCons (fC (.str "set")) (fCons (fC (.str "add")) (fCons (fC (.str "times")) fNil))))) (pkVar 3)) (fCons (fR m_znumber 0 0 toVal (apHead 0 fNil)) fNil)))) sNext)
  (sSeq (sIf (fB (fBin ltF (pkVar 3) (fOf (fC (.int 11))))) (sSeq (sSet 4 (fBin itF (fOf (fLst (fCons (fC (.str "load")) (fCons (fC (.str "keep")) (fCons (fC (.str "read")) (fCons (fC (.str "get")) (fCons (fC (.str "put")) (fCons (fC (.str "ask")) (fCons (fC (.str "emit")) (fCons (fC (.str "send")) fNil)))))))))) (fOf (fBin subF (pkVar 3) (fOf (fC (.int 3)))))))
  (sRet (fTup (fCons (rdVar 4) (fCons (fBin itF (fOf (fLst (fCons (fC (.str "a")) (fCons (fC (.str "a")) (fCons (fC (.str "b")) (fCons (fC (.str "ab")) fNil)))))) (fOf (fR Df.m_ztake 0 0 toVal (apHead 0 (fCons (fC (.int 4)) fNil))))) fNil))))) sNext)
  (sSeq (sIf (fAnd (fB (fBin eqF (pkVar 3) (fOf (fC (.int 11))))) (fB (fBin ltF (fOf (fBin addF (pkVar 1) (fOf (fC (.int 1))))) (pkVar 2)))) (sRet (fTup (fCons (fC (.str "pass")) (fCons (fBin addF (fOf (fC (.int 1))) (fOf (fR Df.m_ztake 0 0 toVal (apHead 0 (fCons (fBin subF (fOf (fBin subF (pkVar 2) (pkVar 1))) (fOf (fC (.int 1)))) fNil))))) fNil)))) sNext)
  (sSeq (sIf (fAnd (fB (fBin eqF (pkVar 3) (fOf (fC (.int 12))))) (fAnd (fB (fBin gtF (pkVar 1) (fOf (fC (.int 0))))) (fB (fBin eqF (fOf (fR Df.m_ztake 0 0 toVal (apHead 0 (fCons (fC (.int 2)) fNil)))) (fOf (fC (.int 0))))))) (sRet (fTup (fCons (fC (.str "back")) (fCons (fBin addF (fOf (fC (.int 1))) (fOf (fR Df.m_ztake 0 0 toVal (apHead 0 (fCons (rdVar 1) fNil))))) fNil)))) sNext)
  (sSeq (sIf (fAnd (fB (fBin eqF (pkVar 3) (fOf (fC (.int 13))))) (fB (fBin eqF (fOf (fR Df.m_ztake 0 0 toVal (apHead 0 (fCons (fC (.int 3)) fNil)))) (fOf (fC (.int 0)))))) (sRet (fTup (fCons (fC (.str "refuse")) fNil))) sNext)
  (sRet (fTup (fCons (fC (.str "add")) (fCons (fBin addF (fOf (fC (.int 1))) (fOf (fR Df.m_ztake 0 0 toVal (apHead 0 (fCons (fC (.int 5)) fNil))))) fNil))))))))))
def m_zstep : Mir := mir 3 5 F_zstep
/-! zface: 0 zbag_here 1 zpart 2 zparts 3 zwords 4 zcalls 5 zasks 6 zfront 7 zhooks 8 zrights 9 zword 10 zback 11 zcall 12 zhook 13 zevent 14 zwhat 15 zname -/
def I_zface_1 : Fe (List D) := (iAny (rdVar 3))
def E_zface_1 : Fe D := (rdVar 9)
def T_zface_1 : Fe Bool := (fB (fBin niF (pkVar 9) (pkVar 4)))
def C_zface_1 : Fe D := (fComp [9] I_zface_1 (bName 9) T_zface_1 E_zface_1)
def I_zface_2 : Fe (List D) := (iAny (rdVar 4))
def E_zface_2 : Fe D := (fBin addF (fOf (fTup (fCons (fC (.str "offer")) (fCons (rdVar 11) (fCons (fTup (fCons (fR Df.m_ztake 0 0 toVal (apHead 0 (fCons (fC (.int 2)) fNil))) (fCons (fR Df.m_ztake 0 0 toVal (apHead 0 (fCons (fC (.int 3)) fNil))) fNil))) fNil))))) (fOf (fR m_zshape 0 0 toVal (apHead 0 fNil))))
def C_zface_2 : Fe D := (fComp [11] I_zface_2 (bName 11) fYes E_zface_2)
def I_zface_3 : Fe (List D) := (iAny (rdVar 5))
def E_zface_3 : Fe D := (fTup (fCons (fC (.str "ask")) (fCons (rdVar 11) (fCons (fTup (fCons (fR Df.m_ztake 0 0 toVal (apHead 0 (fCons (fC (.int 2)) fNil))) (fCons (fR Df.m_ztake 0 0 toVal (apHead 0 (fCons (fC (.int 3)) fNil))) fNil))) fNil))))
def C_zface_3 : Fe D := (fComp [11] I_zface_3 (bName 11) fYes E_zface_3)
def I_zface_4 : Fe (List D) := (iAny (fLst (fCons (fC (.str "a")) (fCons (fC (.str "ab")) (fCons (fC (.str "b")) fNil)))))
def E_zface_4 : Fe D := (rdVar 12)
def T_zface_4 : Fe Bool := (fB (fBin gtF (fOf (fR Df.m_ztake 0 0 toVal (apHead 0 (fCons (fC (.int 4)) fNil)))) (fOf (fBin mulG (fOf (fC (.int 2))) (fOf (fCall intF (lCons (fOf (fBin eqF (pkVar 12) (fOf (fC (.str "ab"))))) lNil)))))))
def C_zface_4 : Fe D := (fComp [12] I_zface_4 (bName 12) T_zface_4 E_zface_4)
def I_zface_5 : Fe (List D) := (iAny (rdVar 7))
def E_zface_5 : Fe D := (fR m_zhook_row 0 0 toVal (apHead 0 (fCons (rdVar 12) (fCons (rdVar 1) (fCons (rdVar 2) fNil)))))
def C_zface_5 : Fe D := (fComp [12] I_zface_5 (bName 12) fYes E_zface_5)
def I_zface_6 : Fe (List D) := (iAny (fR m_zsome 0 0 toVal (apHead 0 (fCons (fLst (fCons (fC (.str "a")) (fCons (fC (.str "b")) fNil))) (fCons (fC (.int 2)) fNil)))))
def E_zface_6 : Fe D := (fTup (fCons (fC (.str "on")) (fCons (rdVar 13) (fCons (fR Df.m_ztake 0 0 toVal (apHead 0 (fCons (fC (.int 3)) fNil))) fNil))))
def C_zface_6 : Fe D := (fComp [13] I_zface_6 (bName 13) fYes E_zface_6)
def I_zface_7 : Fe (List D) := (iAny (fR m_zsome 0 0 toVal (apHead 0 (fCons (fLst (fCons (fC (.str "a")) (fCons (fC (.str "b")) fNil))) (fCons (fC (.int 2)) fNil)))))
def E_zface_7 : Fe D := (fTup (fCons (fC (.str "right")) (fCons (rdVar 9) (fCons (rdVar 14) (fCons (fBin addF (fOf (fC (.int 1))) (fOf (fR Df.m_ztake 0 0 toVal (apHead 0 (fCons (fC (.int 3)) fNil))))) fNil)))))
def C_zface_7 : Fe D := (fComp [14] I_zface_7 (bName 14) fYes E_zface_7)
def I_zface_8 : Fe (List D) := (iAny (fLst (fCons (fC (.str "emit")) (fCons (fC (.str "get")) (fCons (fC (.str "put")) (fCons (fC (.str "read")) (fCons (fC (.str "send")) fNil)))))))
def Y_zface_8 : Fs := (sSet 8 (fBin addF (pkVar 8) (fOf C_zface_7)))
def L_zface_8 : Fs := (sFor I_zface_8 (bName 9) Y_zface_8)
def I_zface_9 : Fe (List D) := (iAny (fR m_zsome 0 0 toVal (apHead 0 (fCons (fLst (fCons (fC (.str "a")) (fCons (fC (.str "b")) fNil))) (fCons (fC (.int 3)) fNil)))))
def E_zface_9 : Fe D := (fTup (fCons (fC (.str "default")) (fCons (rdVar 15) (fCons (fR m_znumber 0 0 toVal (apHead 0 fNil)) fNil))))
def C_zface_9 : Fe D := (fComp [15] I_zface_9 (bName 15) fYes E_zface_9)
def I_zface_10 : Fe (List D) := (iAny (fLst (fCons (fC (.str "a")) (fCons (fC (.str "b")) fNil))))
def E_zface_10 : Fe D := (fR m_zkept_row 0 0 toVal (apHead 0 (fCons (fC (.str "key")) (fCons (rdVar 15) fNil))))
def T_zface_10 : Fe Bool := (fB (fBin gtF (fOf (fR Df.m_ztake 0 0 toVal (apHead 0 (fCons (fC (.int 3)) fNil)))) (fOf (fC (.int 0)))))
def C_zface_10 : Fe D := (fComp [15] I_zface_10 (bName 15) T_zface_10 E_zface_10)
def I_zface_11 : Fe (List D) := (iAny (fR m_zsome 0 0 toVal (apHead 0 (fCons (fLst (fCons (fC (.str "a")) (fCons (fC (.str "b")) fNil))) (fCons (fC (.int 3)) fNil)))))
def E_zface_11 : Fe D := (fR m_zkept_row 0 0 toVal (apHead 0 (fCons (fC (.str "own")) (fCons (rdVar 15) fNil))))
def C_zface_11 : Fe D := (fComp [15] I_zface_11 (bName 15) fYes E_zface_11)
def F_zface : Fs :=
  (sSeq (sSet 3 (fLst (fCons (fC (.str "a")) (fCons (fC (.str "ab")) (fCons (fC (.str "b")) fNil)))))
  (sSeq (sSet 4 (fR m_zsome 0 0 toVal (apHead 0 (fCons (rdVar 3) (fCons (fC (.int 3)) fNil)))))
  (sSeq (sSet 5 (fR m_zsome 0 0 toVal (apHead 0 (fCons C_zface_1 (fCons (fC (.int 4)) fNil)))))
  (sSeq (sSetO 6 C_zface_2)
  (sSeq (sSet 6 (fBin addF (pkVar 6) (fOf C_zface_3)))
  (sSeq (sSetO 7 C_zface_4)
  (sSeq (sSet 6 (fBin addF (pkVar 6) (fOf C_zface_5)))
  (sSeq (sSet 6 (fBin addF (pkVar 6) (fOf C_zface_6)))
  (sSeq (sSet 8 (fLst fNil))
  (sSeq L_zface_8
  (sSeq (sSetO 10 C_zface_9)
  (sSeq (sSet 10 (fBin addF (pkVar 10) (fOf C_zface_10)))
  (sSeq (sSet 10 (fBin addF (pkVar 10) (fOf C_zface_11)))
  (sSeq (sSet 10 (fBin addF (pkVar 10) (fOf (fBin mulG (fOf (fLst (fCons (fTup (fCons (fC (.str "steps")) (fCons (fBin addF (fOf (fC (.int 1))) (fOf (fR Df.m_ztake 0 0 toVal (apHead 0 (fCons (fC (.int 60)) fNil))))) fNil))) fNil))) (fOf (fCall intF (lCons (fOf (fBin eqF (fOf (fR Df.m_ztake 0 0 toVal (apHead 0 (fCons (fC (.int 3)) fNil)))) (fOf (fC (.int 0))))) lNil)))))))
  (sRet (fCall tupleF (lCons (fOf (fBin addF (fOf (fBin addF (pkVar 6) (fOf (fSlice (pkVar 8) ptNone (ptSome (fBin subF (fOf (fBin subF (fOf (fC (.int 16))) (fOf (fCall lenF (lCons (pkVar 6) lNil))))) (fOf (fCall lenF (lCons (pkVar 10) lNil))))))))) (pkVar 10))) lNil)))))))))))))))))
def m_zface : Mir := mir 3 16 F_zface
/-! zbody: 0 zbag_here 1 zface_here 2 znames_here 3 zfound 4 zrow 5 zmany 6 zsteps 7 zstock 8 zat -/
def I_zbody_1 : Fe (List D) := (iRng1 (rdVar 5))
def E_zbody_1 : Fe D := (fR m_zstep 0 0 toVal (apHead 0 (fCons (rdVar 8) (fCons (rdVar 5) fNil))))
def C_zbody_1 : Fe D := (fComp [8] I_zbody_1 (bName 8) fYes E_zbody_1)
def I_zbody_2 : Fe (List D) := (iAny (rdVar 1))
def Y_zbody_2 : Fs := (sIf (fB (fBin inF (fOf (fBin itF (pkVar 4) (fOf (fC (.int 0))))) (fOf (fTup (fCons (fC (.str "offer")) (fCons (fC (.str "hook")) (fCons (fC (.str "on")) fNil))))))) (sSeq (sSet 5 (fR Df.m_ztake 0 0 toVal (apHead 0 (fCons (fC (.int 8)) fNil))))
  (sSeq (sSet 6 (fCall tupleF (lCons (fOf C_zbody_1) lNil)))
  (sSeq (sSet 7 (fTup (fCons (fC (.str "stock")) (fCons (fBin itF (pkVar 2) (fOf (fR Df.m_ztake 0 0 toVal (apHead 0 (fCons (fCall lenF (lCons (pkVar 2) lNil)) fNil))))) fNil))))
  (sApp 3 (fBin itF (fOf (fLst (fCons (fTup (fCons (fC (.str "steps")) (fCons (rdVar 6) fNil))) (fCons (fTup (fCons (fC (.str "steps")) (fCons (rdVar 6) fNil))) (fCons (rdVar 7) fNil))))) (fOf (fR Df.m_ztake 0 0 toVal (apHead 0 (fCons (fC (.int 3)) fNil))))))))) sNext)
def L_zbody_2 : Fs := (sFor I_zbody_2 (bName 4) Y_zbody_2)
def F_zbody : Fs :=
  (sSeq (sSetO 3 (fLst fNil))
  (sSeq L_zbody_2
  (sRet (fCall tupleF (lCons (pkVar 3) lNil)))))
def m_zbody : Mir := mir 3 9 F_zbody
/-! zmake: 0 zbag_here 1 zpart 2 zversion 3 zparts 4 znames_here 5 zface_here -/
def F_zmake : Fs :=
  (sSeq (sSet 5 (fR m_zface 0 0 toVal (apHead 0 (fCons (rdVar 1) (fCons (rdVar 3) fNil)))))
  (sRet (fTup (fCons (fC (.str "make")) (fCons (rdVar 1) (fCons (rdVar 2) (fCons (rdVar 5) (fCons (fR m_zbody 0 0 toVal (apHead 0 (fCons (rdVar 5) (fCons (rdVar 4) fNil)))) fNil))))))))
def m_zmake : Mir := mir 5 6 F_zmake
local macro_rules
  | `(tactic| simp! [$ls,*]) => `(tactic| simp only [
    bind_ok, bind_err, bindS_ok, bindS_err, of_some, slot0, slotS, rdVar_e, rdC_val, rdC_own, cellD_val, cellD_own, cellD_ref, pkVar_e, pkC_some,
    opd_tmp, opd_var, lendC_own, lendC_ref, stor_n, stor_v, stor_o, stor_hit, eq_self, stor_next, map_some', soft_none, soft_val, soft_own, fC_e,
    fOf_e, ofK_e, op2_e, fBin_e, bin1_e, bin2_e, op1_e, fUn_e, un1_e, fNil_e, fCons_e, cons1_e, cons2_e, apCons_e, fTup_e, fLst_e, tup1_e, lst1_e,
    lNil_e, lCons_e, lc1_e, lc2_e, opL_nil, opL_cons, op2L_e, opN_e, fCall_e, call1_e, fIsi_e, isi1_e, fMeth_e, meth1_e, methT_s, methT_l, meth2_e, opM_e,
    fSlice_e, sl1_e, sl2_e, sl3_e, ptNone_e, ptSome_e, toPt_e, toB_e, fB_e, fChain_e, ch1_e, ch2_e, ch3_t, ch3_f, ch4_e, fAnd_e, fOr_e, fNot_e, and1_t,
    and1_f, or1_t, or1_f, not1_e, fAndV_e, fOrV_e, fNotV_e, andV1_t, andV1_f, orV1_t, orV1_f, notV1_e, fIf_e, if1_t, if1_f, fV_e, fVO_e, v1_e, vO1_e,
    cellRes_ok, toVal_v, toVal_o, toOwn_o, mapV0, mapV1, apHead_e, apH1_e, apH2_e, fR_e, r1_e, r2_0, r2_1, back1_0, back1_S, backC_own, backC_ref,
    cellResR_e, cR_ref, cR_none, sSeq_e, seq1_n, seq1_r, seq1_b, seq1_c, sNext_e, sDrop_e, drop1_e, sRet_e, sRetO_e, ret1_e, retO1_e, sRetN_e, sRetV_e,
    retC_v, retC_o, nextO_e, sSet_e, sSetO_e, set1_e, setO1_e, bName_e, bNil_e, bCons_e, bCons1_e, sAsg_e, asg1_e, storN_e, par1_e, sAugN_e, augN0_e,
    augN1_e, sIf_e, sif1_t, sif1_f, sFor_e, sfor1_e, iAny_e, anyI_l, anyI_t, anyI_s, iRng1_e, atI_0, atI_1, atI_2, atI_3, atI_4, atI_5, atI_6, atI_7,
    atI_8, atI_9, atI_10, atI_11, atI_12, atN_0, atN_S, lset_0, lset_S, mapc, putN_e, sItem_e, item1_e, item2_e, item3_e, item4_0, item4_1, item4_2,
    item4_3, item4_4, item4_5, item4_6, item4_7, item4_8, item4_9, sAugI_e, augIs_e, augIk_e, augI0_0, augI0_1, augI0_2, augI0_3, augI0_4, augI0_5,
    augI1_e, augI2_e, augI3_e, sApp_e, app0_e, app1_e, mir_e, runBody_e, fin_r, fin_n, outs_n, outs_v, outs_r, addF_i, subF_i, eqF_i, eqF_s, neF_i,
    neF_s, ltF_i, gtF_i, leF_i, geF_i, isF_n, isnF_n, itF_l, itF_t, lenF_l, lenF_t, absF_i, intF_i, intF_b, negF_i, revF_l, maxF_i, minF_i, listF_l,
    listF_t, sliceF_l, sliceF_t, List.length_map, List.set_cons_zero, List.set_cons_succ, Int.reducePow, Int.reduceNeg, Int.reduceLT, Int.reduceLE,
    Int.reduceMod, Int.cast_ofNat_Int, Int.natCast_add, Int.reduceAdd, Int.reduceSub, Int.reduceMul, Int.reduceDiv, Int.reduceToNat, decide_true, decide_false, if_true, if_false, and_self, Nat.reduceAdd, Nat.reduceSub,
    Nat.reduceLeDiff, List.length_cons, List.length_nil, List.map_cons, List.map_nil, List.cons_append, List.nil_append, List.replicate, mulF_l,
    mulF_r, mulG_i, isi_NoneType_int, isi_NoneType_bool, isi_NoneType_str, isi_NoneType_list, isi_NoneType_tuple, isi_NoneType_dict, isi_bool_int, isi_bool_bool, isi_bool_str, isi_bool_list, isi_bool_tuple, isi_bool_dict, isi_int_int, isi_int_bool, isi_int_str, isi_int_list, isi_int_tuple, isi_int_dict, isi_str_int, isi_str_bool, isi_str_str, isi_str_list, isi_str_tuple, isi_str_dict, isi_list_int, isi_list_bool, isi_list_str, isi_list_list, isi_list_tuple, isi_list_dict, isi_tuple_int, isi_tuple_bool, isi_tuple_str, isi_tuple_list, isi_tuple_tuple, isi_tuple_dict, isi_dict_int, isi_dict_bool, isi_dict_str, isi_dict_list, isi_dict_tuple, isi_dict_dict, fPNil_e, fPCons_e, pc1_e, pc2_e, pc3_e, fDct_e, dct1_e, modF_i, divF_i,    forV_e, forVc_v, forVc_r, forVc_o, map_n, map_r, r2_2, lOne_e, lOne1_e, opN2_e, fCallK_e, ck1_e, ck2_e,
 $ls,*])
theorem start (np n : Nat) (F : Fs) (cells : List Cell) (h : cells.length = np) : mir np n F cells = fin cells (F (cells.map some ++ List.replicate (n - cells.length) none)) := by rw [mir_e h, runBody_e]
theorem take_e (b : Bg) (m : Int) (h0 : 0 < m) (h1 : m < 18446744073709551616) : Df.m_ztake [.ref (bagD b), .val (.int m)] = .ok (.val (.int (takeV b m))) [some (.ref (bagD (takeB b m))), none] := Df.take_e b m h0 h1
theorem set_back {rest : DEnv} {j : Nat} (hj : j < rest.length) : (rest.set j none).set j (slot rest j) = rest := by
  rw [List.set_set]
  have e : slot rest j = rest[j] := by
    rw [slot_eq, List.getElem?_eq_getElem hj]
    rfl
  rw [e, List.set_getElem_self]
/-- a comprehension over texts whose test and whose items may draw -/
theorem draw_e {j : Nat} {I : Fe (List D)} {T : Fe Bool} {E : Fe D} {b0 b : Bg} {rest0 rest : DEnv} {names : List Str} (G : Str → D → Prop) (hj : j < rest.length) (hc : calmAt (some (.ref (bagD b)) :: rest) [j + 1] = true) (hl : names.length ≤ 100000)
    (hI : I (some (.ref (bagD b0)) :: rest0) = .ok (strL names) (some (.ref (bagD b)) :: rest))
    (h : ∀ n ∈ names, ∀ b, (∃ b', T (some (.ref (bagD b)) :: rest.set j (some (.val (.str n)))) = .ok false (some (.ref (bagD b')) :: rest.set j (some (.val (.str n))))) ∨
      ∃ b' y b2, T (some (.ref (bagD b)) :: rest.set j (some (.val (.str n)))) = .ok true (some (.ref (bagD b')) :: rest.set j (some (.val (.str n)))) ∧ E (some (.ref (bagD b')) :: rest.set j (some (.val (.str n)))) = .ok y (some (.ref (bagD b2)) :: rest.set j (some (.val (.str n)))) ∧ G n y) :
    ∃ (sub : List (Str × D)) (b' : Bg), fComp [j + 1] I (bName (j + 1)) T E (some (.ref (bagD b0)) :: rest0) = .ok (.list (sub.map (·.2))) (some (.ref (bagD b')) :: rest) ∧ (sub.map (·.1)).Sublist names ∧ (∀ p ∈ sub, G p.1 p.2) := by
  have ln : (strL names).length = names.length := List.length_map _
  obtain ⟨sub, got, δ2, e, sb, sq, ga, b', hb⟩ := comp_pick (i := j + 1) (T := T) (E := E) (δ1 := some (.ref (bagD b)) :: rest) (ds := strL names) (fun δ => ∃ b', δ = some (.ref (bagD b')) :: rest.set j none) (fun d y => ∃ n, d = .str n ∧ G n y) (fun d => True) hI
    (by rw [List.length_cons]; omega) (by omega) ⟨b, rfl⟩ (fun δ ⟨b', h⟩ => by
      subst h
      refine ⟨by simp, ?_⟩
      have s : slot (some (Cell.ref (bagD b')) :: rest.set j none) (j + 1) = none := by
        rw [slot_eq, List.getElem?_cons_succ, List.getElem?_set_self hj]
        rfl
      rw [s]
      rfl) (fun d m δ ⟨b', hb⟩ => by
      subst hb
      obtain ⟨n, mn, rfl⟩ := List.mem_map.mp m
      have s2 : ∀ (b : Bg) (x y : Option Cell), (some (Cell.ref (bagD b)) :: rest.set j x).set (j + 1) y = some (Cell.ref (bagD b)) :: rest.set j y := fun b x y => by
        rw [List.set_cons_succ, List.set_set]
      rw [s2]
      rcases h n mn b' with ⟨b3, et⟩ | ⟨b3, y, b4, et, ey, g⟩
      · exact .inl ⟨_, et, b3, s2 _ _ _⟩
      · exact .inr ⟨_, y, _, et, ey, trivial, ⟨n, rfl, g⟩, b4, s2 _ _ _⟩) hc
  subst hb
  have pairs : ∀ (sub got : List D), Beside (fun d y => ∃ n, d = .str n ∧ G n y) sub got → ∃ ps : List (Str × D), sub = strL (ps.map (·.1)) ∧ got = ps.map (·.2) ∧ ∀ p ∈ ps, G p.1 p.2 := fun sub got h => by
    induction h with
    | nil => exact ⟨[], rfl, rfl, fun p m => by cases m⟩
    | cons g _ ih =>
      obtain ⟨n, rfl, g⟩ := g
      obtain ⟨ps, rfl, rfl, k⟩ := ih
      exact ⟨(n, _) :: ps, rfl, rfl, fun p m => (List.mem_cons.mp m).elim (fun z => z ▸ g) (k p)⟩
  obtain ⟨ps, rfl, rfl, k⟩ := pairs sub got ga
  refine ⟨ps, b', ?_, ?_, k⟩
  · have s : slot (some (Cell.ref (bagD b)) :: rest) (j + 1) = slot rest j := by
      rw [slot_eq, slot_eq, List.getElem?_cons_succ]
    rw [e, s, List.set_cons_succ, set_back hj]
  · obtain ⟨l, sl, el⟩ := List.sublist_map_iff.mp sb
    have inj : ∀ {a c : List Str}, strL a = strL c → a = c := fun {a c} h => List.map_inj_right (fun x y z => by injection z) |>.mp h
    rw [inj el]
    exact sl
/-! ### small things -/
abbrev numOk (v : Int) : Prop := -1000000000 ≤ v ∧ v ≤ 1000000000
theorem number_ex (b : Bg) : ∃ n b', m_znumber [.ref (bagD b)] = .ok (.val (.int n)) [some (.ref (bagD b'))] ∧ numOk n := by
  have t1 := take_e b 4 (by omega) (by omega)
  have a1 := takeV_nn (b := b) (m := 4) (by omega)
  have a2 := takeV_lt (b := b) (m := 4) (by omega)
  generalize takeV b 4 = v1 at *
  generalize takeB b 4 = b1 at *
  have t2 := take_e b1 4 (by omega) (by omega)
  have c1 := takeV_nn (b := b1) (m := 4) (by omega)
  have c2 := takeV_lt (b := b1) (m := 4) (by omega)
  generalize takeV b1 4 = v2 at *
  generalize takeB b1 4 = b2 at *
  have t3 := take_e b2 20 (by omega) (by omega)
  have d1 := takeV_nn (b := b2) (m := 20) (by omega)
  have d2 := takeV_lt (b := b2) (m := 20) (by omega)
  generalize takeV b2 20 = v3 at *
  generalize takeB b2 20 = b3 at *
  have t4 := take_e b3 2000000001 (by omega) (by omega)
  have f1 := takeV_nn (b := b3) (m := 2000000001) (by omega)
  have f2 := takeV_lt (b := b3) (m := 2000000001) (by omega)
  generalize takeV b3 2000000001 = v4 at *
  generalize takeB b3 2000000001 = b4 at *
  have e9 : powF (.int 10) (.int 9) = some (.int 1000000000) := by rfl
  obtain ⟨ed, m0, at_, ed1⟩ : ∃ ed, ed ∈ [(1000000000 : Int), -1000000000, 0, 1] ∧ L2.atI ([.int 1000000000, .int (-1000000000), .int 0, .int 1] : List D) v2 = some (.int ed) ∧ numOk ed := by
    have : v2 = 0 ∨ v2 = 1 ∨ v2 = 2 ∨ v2 = 3 := by omega
    rcases this with rfl | rfl | rfl | rfl
    · exact ⟨1000000000, by simp, rfl, by omega⟩
    · exact ⟨-1000000000, by simp, rfl, by omega⟩
    · exact ⟨0, by simp, rfl, by omega⟩
    · exact ⟨1, by simp, rfl, by omega⟩
  have g : ∀ d : Int, L2.atI ([.int (v3 - 8), .int ed, .int 3, .int (v4 - 1000000000)] : List D) v1 = some (.int d) → m_znumber [.ref (bagD b)] = .ok (.val (.int d)) [some (.ref (bagD b4))] := fun d h => by
    unfold m_znumber
    rw [start _ _ _ _ (by rfl)]
    unfold F_znumber
    simp! [t1, t2, e9, at_, t3, t4, h]
  have : v1 = 0 ∨ v1 = 1 ∨ v1 = 2 ∨ v1 = 3 := by omega
  rcases this with rfl | rfl | rfl | rfl
  · exact ⟨_, b4, g _ rfl, by omega⟩
  · exact ⟨_, b4, g _ rfl, ed1⟩
  · exact ⟨_, b4, g _ rfl, by omega⟩
  · exact ⟨_, b4, g _ rfl, by omega⟩
theorem shape_ex (b : Bg) : ∃ lo hi b', m_zshape [.ref (bagD b)] = .ok (.val (.tuple [.int lo, .int hi])) [some (.ref (bagD b'))] ∧ numOk lo ∧ numOk hi ∧ lo ≤ hi := by
  have t1 := take_e b 4 (by omega) (by omega)
  have a1 := takeV_nn (b := b) (m := 4) (by omega)
  have a2 := takeV_lt (b := b) (m := 4) (by omega)
  generalize takeV b 4 = v1 at *
  generalize takeB b 4 = b1 at *
  have t2 := take_e b1 9 (by omega) (by omega)
  have c1 := takeV_nn (b := b1) (m := 9) (by omega)
  have c2 := takeV_lt (b := b1) (m := 9) (by omega)
  generalize takeV b1 9 = v2 at *
  generalize takeB b1 9 = b2 at *
  have t3 := take_e b2 30 (by omega) (by omega)
  have d1 := takeV_nn (b := b2) (m := 30) (by omega)
  have d2 := takeV_lt (b := b2) (m := 30) (by omega)
  generalize takeV b2 30 = v3 at *
  generalize takeB b2 30 = b3 at *
  have e9 : powF (.int 10) (.int 9) = some (.int 1000000000) := by rfl
  have g : ∀ d : D, L2.atI ([.tuple [.int (-1000000000), .int 1000000000], .tuple [.int 0, .int 9], .tuple [.int (-20), .int 40], .tuple [.int (v2 - 6), .int (v2 - 6 + v3)]] : List D) v1 = some d → m_zshape [.ref (bagD b)] = .ok (.val d) [some (.ref (bagD b3))] := fun d h => by
    unfold m_zshape
    rw [start _ _ _ _ (by rfl)]
    unfold F_zshape
    simp! [t1, t2, e9, t3, h]
  have : v1 = 0 ∨ v1 = 1 ∨ v1 = 2 ∨ v1 = 3 := by omega
  rcases this with rfl | rfl | rfl | rfl
  · exact ⟨_, _, b3, g _ rfl, by omega, by omega, by omega⟩
  · exact ⟨_, _, b3, g _ rfl, by omega, by omega, by omega⟩
  · exact ⟨_, _, b3, g _ rfl, by omega, by omega, by omega⟩
  · exact ⟨_, _, b3, g _ rfl, by omega, by omega, by omega⟩
/-- some of the words -/
theorem some_ex (b : Bg) (ws : List Str) (m : Int) (h0 : 0 < m) (h1 : m < 1000) (hl : ws.length ≤ 100000) : ∃ sub b', m_zsome [.ref (bagD b), .val (.list (strL ws)), .val (.int m)] = .ok (.val (.list (strL sub))) [some (.ref (bagD b')), none, none] ∧ sub.Sublist ws := by
  obtain ⟨sub, b', e, sl, g⟩ := draw_e (j := 2) (I := I_zsome_1) (T := T_zsome_1) (E := E_zsome_1) (b0 := b) (b := b) (rest0 := [some (.val (.list (strL ws))), some (.val (.int m)), none]) (rest := [some (.val (.list (strL ws))), some (.val (.int m)), none]) (names := ws) (fun n y => y = .str n) (by simp) rfl hl (by
    unfold I_zsome_1
    simp! []) (fun n mn b => by
    have te := take_e b m h0 (by omega)
    have T : T_zsome_1 (some (.ref (bagD b)) :: [some (.val (.list (strL ws))), some (.val (.int m)), none].set 2 (some (.val (.str n)))) = .ok (decide (takeV b m = 0)) (some (.ref (bagD (takeB b m))) :: [some (.val (.list (strL ws))), some (.val (.int m)), none].set 2 (some (.val (.str n)))) := by
      unfold T_zsome_1
      simp! [te]
    by_cases h : takeV b m = 0
    · rw [dt h] at T
      refine .inr ⟨_, .str n, takeB b m, T, ?_, rfl⟩
      unfold E_zsome_1
      simp! []
    · rw [df h] at T
      exact .inl ⟨_, T⟩)
  have ey : sub.map (·.2) = strL (sub.map (·.1)) := by
    unfold Lf.strL
    rw [List.map_map]
    exact List.map_congr_left fun p m => g p m
  refine ⟨sub.map (·.1), b', ?_, sl⟩
  unfold m_zsome
  rw [start _ _ _ _ (by rfl)]
  unfold F_zsome C_zsome_1
  rw [ey] at e
  generalize fComp [3] I_zsome_1 (bName 3) T_zsome_1 E_zsome_1 = C at *
  simp! [e]
/-! ### rows -/
def atomD : D → Bool
  | .int _ | .str _ => true
  | _ => false
abbrev othW : List Str := ["offer", "ask", "hook", "on", "key", "own", "steps"]
theorem oth_w {w : Str} (h : w ∈ othW) : TS w := by
  have h2 : ∀ w ∈ othW, tinyB (.str w) = true ∧ w.length ≤ 10 := by decide +kernel
  exact T1.lit (h2 w h).1 (h2 w h).2
/-- a row that is no default and no right -/
structure OthR (r : D) : Prop where
  ex : ∃ w x rest, r = .tuple (.str w :: x :: rest) ∧ w ∈ othW ∧ atomD x = true ∧ rest.length ≤ 10
  pl : PyData.plain r = true
  dp : PyData.depth r ≤ 3
  ti : T1 r 2500
theorem oth_of {w : Str} {x : D} {rest : List D} (h : w ∈ othW) (ha : atomD x = true) (hp : PyData.plain (.tuple (.str w :: x :: rest)) = true) (hd : PyData.depth (.tuple (.str w :: x :: rest)) ≤ 3) {m : Nat} (ht : TA (x :: rest) m) (hm : m ≤ 2300 := by decide) (hl : rest.length ≤ 10 := by simp) : OthR (.tuple (.str w :: x :: rest)) := ⟨⟨w, x, rest, rfl, h, ha, hl⟩, hp, hd, T1.mono (T1.tup (TA.cons (oth_w h) ht)) (by omega)⟩
theorem kept_ex (b : Bg) (w n : Str) (hw : w = "key" ∨ w = "own") (tn : TS n) : ∃ r b', m_zkept_row [.ref (bagD b), .val (.str w), .val (.str n)] = .ok (.val r) [some (.ref (bagD b')), none, none] ∧ OthR r := by
  obtain ⟨lo, hi, b1, es, l1, l2, l3⟩ := shape_ex b
  generalize hm : mn (hi - lo) 12 + 1 = m
  have hm2 : 0 < m ∧ m ≤ 13 := by
    unfold mn at hm
    split at hm <;> omega
  have t1 := take_e b1 m (by omega) (by omega)
  have v0 := takeV_nn (b := b1) (m := m) (by omega)
  have v9 := takeV_lt (b := b1) (m := m) (by omega)
  generalize takeV b1 m = v at *
  generalize takeB b1 m = b2 at *
  have ia : T1 (.int lo) 40 := T1.int (by omega) (by omega)
  have ib : T1 (.int hi) 40 := T1.int (by omega) (by omega)
  have ic : T1 (.int (lo + v)) 40 := T1.int (by omega) (by omega)
  rcases hw with rfl | rfl
  · have t2 := take_e b2 3 (by omega) (by omega)
    have a1 := takeV_nn (b := b2) (m := 3) (by omega)
    have a2 := takeV_lt (b := b2) (m := 3) (by omega)
    generalize takeV b2 3 = u at *
    generalize takeB b2 3 = b3 at *
    have g : ∀ c : Str, L2.atI ([.str "kept", .str "kept", .str "anew"] : List D) u = some (.str c) → m_zkept_row [.ref (bagD b), .val (.str "key"), .val (.str n)] = .ok (.val (.tuple [.str "key", .str n, .int lo, .int hi, .int (lo + v), .str c])) [some (.ref (bagD b3)), none, none] := fun c h => by
      have ad : addF (.tuple [.str "key", .str n, .int lo, .int hi, .int (lo + v)]) (.tuple [.str c]) = some (.tuple [.str "key", .str n, .int lo, .int hi, .int (lo + v), .str c]) := rfl
      have q : eqF (.str "key") (.str "key") = some (.bool true) := rfl
      unfold m_zkept_row
      rw [start _ _ _ _ (by rfl)]
      unfold F_zkept_row
      simp! [bTup_e, es, hm, t1, q, t2, h, ad]
    have : u = 0 ∨ u = 1 ∨ u = 2 := by omega
    rcases this with rfl | rfl | rfl
    · exact ⟨_, b3, g "kept" rfl, oth_of (by decide) rfl rfl (by simp [PyData.depth, PyData.depthAll]) (.cons tn (.cons ia (.cons ib (.cons ic (.cons (T1.lit (by decide +kernel) (by decide)) .nil)))))⟩
    · exact ⟨_, b3, g "kept" rfl, oth_of (by decide) rfl rfl (by simp [PyData.depth, PyData.depthAll]) (.cons tn (.cons ia (.cons ib (.cons ic (.cons (T1.lit (by decide +kernel) (by decide)) .nil)))))⟩
    · exact ⟨_, b3, g "anew" rfl, oth_of (by decide) rfl rfl (by simp [PyData.depth, PyData.depthAll]) (.cons tn (.cons ia (.cons ib (.cons ic (.cons (T1.lit (by decide +kernel) (by decide)) .nil)))))⟩
  · have q : eqF (.str "own") (.str "key") = some (.bool false) := rfl
    refine ⟨.tuple [.str "own", .str n, .int lo, .int hi, .int (lo + v)], b2, ?_, oth_of (by decide) rfl rfl (by simp [PyData.depth, PyData.depthAll]) (.cons tn (.cons ia (.cons ib (.cons ic .nil))))⟩
    unfold m_zkept_row
    rw [start _ _ _ _ (by rfl)]
    unfold F_zkept_row
    simp! [bTup_e, es, hm, t1, q]
theorem sort_s (X : List Str) : sortF [.list (strL X)] = some (.list (strL (X.mergeSort leS))) := sort_strs X
theorem strL_pl (X : List Str) : PyData.plainAll (strL X) = true := Lf.strL_plain X
theorem strL_dp (X : List Str) : PyData.depthAll (strL X) ≤ 1 := strs_depth X
theorem tup_strL (X : List Str) : PyData.plain (.tuple (strL X)) = true ∧ PyData.depth (.tuple (strL X)) ≤ 2 := ⟨by
  show PyData.plainAll _ = true
  exact strL_pl X, by
  have := strL_dp X
  show PyData.depthAll _ + 1 ≤ 2
  omega⟩
theorem hook_ex (b : Bg) (h p : Str) (ps : List Str) (hl : ps.length ≤ 9) (th : TS h) (tp : ∀ q ∈ ps, TS q) : ∃ r b', m_zhook_row [.ref (bagD b), .val (.str h), .val (.str p), .val (.list (strL ps))] = .ok (.val r) [some (.ref (bagD b')), none, none, none] ∧ OthR r := by
  generalize ho : (ps.mergeSort leS).filter (fun x => !decide (x = p)) = others
  have lo : others.length ≤ 9 := by
    rw [← ho]
    have := List.length_filter_le (fun x => !decide (x = p)) (ps.mergeSort leS)
    rw [List.length_mergeSort] at this
    omega
  have c1 : C_zhook_row_1 [some (.ref (bagD b)), some (.val (.str h)), some (.val (.str p)), some (.val (.list (strL ps))), none, none, none, none] = .ok (.list (strL others)) [some (.ref (bagD b)), some (.val (.str h)), some (.val (.str p)), some (.val (.list (strL ps))), none, none, none, none] := by
    have e := comp_map (i := 7) (I := I_zhook_row_1) (T := T_zhook_row_1) (E := E_zhook_row_1) (δ := [some (.ref (bagD b)), some (.val (.str h)), some (.val (.str p)), some (.val (.list (strL ps))), none, none, none, none])
      (δ1 := [some (.ref (bagD b)), some (.val (.str h)), some (.val (.str p)), some (.val (.list (strL ps))), none, none, none, none]) (ds := strL (ps.mergeSort leS)) (fun d => match d with | .str x => !decide (x = p) | _ => false) id (by
        unfold I_zhook_row_1
        simp! [sort_s]) (by simp) rfl (by
        show (List.map _ _).length ≤ _
        rw [List.length_map, List.length_mergeSort]
        omega) (fun d m => by
        obtain ⟨x, _, rfl⟩ := List.mem_map.mp m
        refine ⟨?_, fun _ => ?_⟩
        · unfold T_zhook_row_1
          simp! []
        · unfold E_zhook_row_1
          simp! []
          rfl)
    unfold C_zhook_row_1
    rw [e, List.map_id, ← ho]
    unfold Lf.strL
    rw [List.filter_map]
    rfl
  have to : ∀ q ∈ others, TS q := fun q m => by
    rw [← ho] at m
    exact tp q ((List.mergeSort_perm ps leS).mem_iff.mp (List.mem_filter.mp m).1)
  obtain ⟨sub, b1, e1, sl1⟩ := some_ex b others 7 (by omega) (by omega) (by omega)
  have ls : sub.length ≤ 9 := Nat.le_trans sl1.length_le lo
  generalize ho2 : others.filter (fun x => decide (x ∉ sub)) = rest
  have tr : ∀ q ∈ rest, TS q := fun q m => by
    rw [← ho2] at m
    exact to q (List.mem_filter.mp m).1
  have lr : rest.length ≤ 9 := by
    rw [← ho2]
    exact Nat.le_trans (List.length_filter_le _ _) lo
  have c2 : C_zhook_row_2 [some (.ref (bagD b1)), some (.val (.str h)), some (.val (.str p)), some (.val (.list (strL ps))), some (.val (.list (strL others))), some (.val (.list (strL sub))), none, none] = .ok (.list (strL rest)) [some (.ref (bagD b1)), some (.val (.str h)), some (.val (.str p)), some (.val (.list (strL ps))), some (.val (.list (strL others))), some (.val (.list (strL sub))), none, none] := by
    have e := comp_map (i := 7) (I := I_zhook_row_2) (T := T_zhook_row_2) (E := E_zhook_row_2) (δ := [some (.ref (bagD b1)), some (.val (.str h)), some (.val (.str p)), some (.val (.list (strL ps))), some (.val (.list (strL others))), some (.val (.list (strL sub))), none, none])
      (δ1 := [some (.ref (bagD b1)), some (.val (.str h)), some (.val (.str p)), some (.val (.list (strL ps))), some (.val (.list (strL others))), some (.val (.list (strL sub))), none, none]) (ds := strL others) (fun d => match d with | .str x => decide (x ∉ sub) | _ => false) id (by
        unfold I_zhook_row_2
        simp! []) (by simp) rfl (by
        show (List.map _ _).length ≤ _
        rw [List.length_map]
        omega) (fun d m => by
        obtain ⟨x, _, rfl⟩ := List.mem_map.mp m
        refine ⟨?_, fun _ => ?_⟩
        · unfold T_zhook_row_2
          simp! [Df.ni_list]
        · unfold E_zhook_row_2
          simp! []
          rfl)
    unfold C_zhook_row_2
    rw [e, List.map_id, ← ho2]
    unfold Lf.strL
    rw [List.filter_map]
    rfl
  obtain ⟨sub2, b2, e2, sl2⟩ := some_ex b1 rest 7 (by omega) (by omega) (by omega)
  have t3 := take_e b2 3 (by omega) (by omega)
  have v0 := takeV_nn (b := b2) (m := 3) (by omega)
  have v9 := takeV_lt (b := b2) (m := 3) (by omega)
  generalize takeV b2 3 = v at *
  generalize takeB b2 3 = b3 at *
  obtain ⟨lo', hi', b4, es, l1, l2, l3⟩ := shape_ex b3
  have q1 := TA.strs (n := 9) (fun q m => to q (sl1.subset m)) ls
  have q2 := TA.strs (n := 9) (fun q m => tr q (sl2.subset m)) (Nat.le_trans sl2.length_le lr)
  have ad : addF (.tuple [.str "hook", .str h, .int v, .tuple (strL sub), .tuple (strL sub2)]) (.tuple [.int lo', .int hi']) = some (.tuple [.str "hook", .str h, .int v, .tuple (strL sub), .tuple (strL sub2), .int lo', .int hi']) := rfl
  have tu : ∀ l : List D, tupleF [.list l] = some (.tuple l) := fun _ => rfl
  obtain ⟨p1, d1⟩ := tup_strL sub
  obtain ⟨p2, d2⟩ := tup_strL sub2
  refine ⟨_, b4, ?_, oth_of (w := "hook") (x := .str h) (rest := [.int v, .tuple (strL sub), .tuple (strL sub2), .int lo', .int hi']) (by decide) rfl ?_ ?_ (.cons th (.cons (T1.int (by omega) (by omega)) (.cons (T1.tup q1) (.cons (T1.tup q2) (.cons (T1.int (by omega) (by omega)) (.cons (T1.int (by omega) (by omega)) .nil))))))⟩
  · unfold m_zhook_row
    rw [start _ _ _ _ (by rfl)]
    unfold F_zhook_row
    generalize C_zhook_row_1 = C1 at *
    generalize C_zhook_row_2 = C2 at *
    simp! [c1, e1, c2, e2, t3, es, ad, tu]
  · simp only [PyData.plain, PyData.plainAll, Bool.and_true, Bool.true_and] at p1 p2 ⊢
    rw [p1, p2]
    rfl
  · simp only [PyData.depth, PyData.depthAll] at d1 d2 ⊢
    omega
/-! ### the face, comprehension by comprehension -/
abbrev Rz (p : Str) (ps : List Str) (x3 x4 x5 x6 x7 x8 x9 x10 : Option Cell) : DEnv := [some (.val (.str p)), some (.val (.list (strL ps))), x3, x4, x5, x6, x7, x8, x9, x10, none, none, none, none, none]
section
variable (p : Str) (ps : List Str) (x3 x4 x5 x6 x7 x8 x9 x10 : Option Cell)
theorem two_ex (b : Bg) (m : Int) (h0 : 0 < m) (h1 : m < 1000) : ∃ sub b', m_zsome [.ref (bagD b), .val (.list [.str "a", .str "b"]), .val (.int m)] = .ok (.val (.list (strL sub))) [some (.ref (bagD b')), none, none] ∧ sub.Sublist (["a", "b"] : List Str) := some_ex b ["a", "b"] m h0 h1 (by decide)
theorem gt_i {a c : Int} : gtF (.int a) (.int c) = some (.bool (decide (a > c))) := by rw [gtF_i]

theorem c2_ex (b : Bg) (calls : List Str) (hl : calls.length ≤ 100000) (tc : ∀ n ∈ calls, TS n) : ∃ (sub : List (Str × D)) (b' : Bg), C_zface_2 (some (.ref (bagD b)) :: Rz p ps x3 (some (.val (.list (strL calls)))) x5 x6 x7 x8 x9 x10) = .ok (.list (sub.map (·.2))) (some (.ref (bagD b')) :: Rz p ps x3 (some (.val (.list (strL calls)))) x5 x6 x7 x8 x9 x10) ∧ (sub.map (·.1)).Sublist calls ∧ ∀ q ∈ sub, (fun _ y => OthR y) q.1 q.2 := by
  refine draw_e (j := 10) (I := I_zface_2) (T := fYes) (E := E_zface_2) (b0 := b) (b := b) (rest := Rz p ps x3 (some (.val (.list (strL calls)))) x5 x6 x7 x8 x9 x10) (names := calls) (fun _ y => OthR y) (by simp) rfl hl (by
    unfold I_zface_2
    simp! []) (fun n mn b => ?_)
  obtain ⟨lo, hi, b3, es, g1, g2, _⟩ := shape_ex (takeB (takeB b 2) 3)
  have t1 := take_e b 2 (by omega) (by omega)
  have t2 := take_e (takeB b 2) 3 (by omega) (by omega)
  have v0 := takeV_nn (b := b) (m := 2) (by omega)
  have v1' := takeV_lt (b := b) (m := 2) (by omega)
  have v2' := takeV_nn (b := takeB b 2) (m := 3) (by omega)
  have v3' := takeV_lt (b := takeB b 2) (m := 3) (by omega)
  generalize takeV b 2 = v1 at *
  generalize takeB b 2 = b1 at *
  generalize takeV b1 3 = v2 at *
  generalize takeB b1 3 = b2 at *
  have ad : addF (.tuple [.str "offer", .str n, .tuple [.int v1, .int v2]]) (.tuple [.int lo, .int hi]) = some (.tuple [.str "offer", .str n, .tuple [.int v1, .int v2], .int lo, .int hi]) := rfl
  refine .inr ⟨b, .tuple [.str "offer", .str n, .tuple [.int v1, .int v2], .int lo, .int hi], b3, rfl, ?_, oth_of (by decide) rfl rfl (by simp [PyData.depth, PyData.depthAll]) (.cons (tc n mn) (.cons (T1.tup (.cons (T1.int (by omega) (by omega)) (.cons (T1.int (by omega) (by omega)) .nil))) (.cons (T1.int (by omega) (by omega)) (.cons (T1.int (by omega) (by omega)) .nil))))⟩
  unfold E_zface_2
  simp! [t1, t2, es, ad]

theorem c3_ex (b : Bg) (asks : List Str) (hl : asks.length ≤ 100000) (tc : ∀ n ∈ asks, TS n) : ∃ (sub : List (Str × D)) (b' : Bg), C_zface_3 (some (.ref (bagD b)) :: Rz p ps x3 x4 (some (.val (.list (strL asks)))) x6 x7 x8 x9 x10) = .ok (.list (sub.map (·.2))) (some (.ref (bagD b')) :: Rz p ps x3 x4 (some (.val (.list (strL asks)))) x6 x7 x8 x9 x10) ∧ (sub.map (·.1)).Sublist asks ∧ ∀ q ∈ sub, (fun _ y => OthR y) q.1 q.2 := by
  refine draw_e (j := 10) (I := I_zface_3) (T := fYes) (E := E_zface_3) (b0 := b) (b := b) (rest := Rz p ps x3 x4 (some (.val (.list (strL asks)))) x6 x7 x8 x9 x10) (names := asks) (fun _ y => OthR y) (by simp) rfl hl (by
    unfold I_zface_3
    simp! []) (fun n mn b => ?_)
  have t1 := take_e b 2 (by omega) (by omega)
  have t2 := take_e (takeB b 2) 3 (by omega) (by omega)
  have v0 := takeV_nn (b := b) (m := 2) (by omega)
  have v1' := takeV_lt (b := b) (m := 2) (by omega)
  have v2' := takeV_nn (b := takeB b 2) (m := 3) (by omega)
  have v3' := takeV_lt (b := takeB b 2) (m := 3) (by omega)
  generalize takeV b 2 = v1 at *
  generalize takeB b 2 = b1 at *
  generalize takeV b1 3 = v2 at *
  generalize takeB b1 3 = b2 at *
  refine .inr ⟨b, .tuple [.str "ask", .str n, .tuple [.int v1, .int v2]], b2, rfl, ?_, oth_of (by decide) rfl rfl (by simp [PyData.depth, PyData.depthAll]) (.cons (tc n mn) (.cons (T1.tup (.cons (T1.int (by omega) (by omega)) (.cons (T1.int (by omega) (by omega)) .nil))) .nil))⟩
  unfold E_zface_3
  simp! [t1, t2]

theorem c4_ex (b : Bg) : ∃ (sub : List (Str × D)) (b' : Bg), C_zface_4 (some (.ref (bagD b)) :: Rz p ps x3 x4 x5 x6 x7 x8 x9 x10) = .ok (.list (sub.map (·.2))) (some (.ref (bagD b')) :: Rz p ps x3 x4 x5 x6 x7 x8 x9 x10) ∧ (sub.map (·.1)).Sublist (["a", "ab", "b"] : List Str) ∧ ∀ q ∈ sub, (fun n y => y = .str n) q.1 q.2 := by
  refine draw_e (j := 11) (I := I_zface_4) (T := T_zface_4) (E := E_zface_4) (b0 := b) (b := b) (rest := Rz p ps x3 x4 x5 x6 x7 x8 x9 x10) (names := (["a", "ab", "b"] : List Str)) (fun n y => y = .str n) (by simp) rfl (by decide) (by
    unfold I_zface_4
    simp! []
    rfl) (fun n mn b => ?_)
  have t1 := take_e b 4 (by omega) (by omega)
  generalize takeV b 4 = v at *
  generalize takeB b 4 = b1 at *
  generalize hc : decide (v > 2 * (if n = "ab" then 1 else 0)) = c
  have T : T_zface_4 (some (.ref (bagD b)) :: (Rz p ps x3 x4 x5 x6 x7 x8 x9 x10).set 11 (some (.val (.str n)))) = .ok c (some (.ref (bagD b1)) :: (Rz p ps x3 x4 x5 x6 x7 x8 x9 x10).set 11 (some (.val (.str n)))) := by
    subst hc
    unfold T_zface_4
    by_cases h : n = "ab"
    · subst h
      have q : eqF (.str "ab") (.str "ab") = some (.bool true) := rfl
      simp! [t1, q, gt_i]
    · have q : eqF (.str n) (.str "ab") = some (.bool false) := by rw [eqF_s, df h]
      simp! [t1, q, gt_i, if_neg h]
      rfl
  cases c with
  | false => exact .inl ⟨b1, T⟩
  | true =>
    refine .inr ⟨b1, .str n, b1, T, ?_, rfl⟩
    unfold E_zface_4
    simp! []

theorem c5_ex (b : Bg) (hooks : List Str) (hl : hooks.length ≤ 100000) (hp : ps.length ≤ 9) (th : ∀ n ∈ hooks, TS n) (tp : ∀ q ∈ ps, TS q) : ∃ (sub : List (Str × D)) (b' : Bg), C_zface_5 (some (.ref (bagD b)) :: Rz p ps x3 x4 x5 x6 (some (.own (.list (strL hooks)))) x8 x9 x10) = .ok (.list (sub.map (·.2))) (some (.ref (bagD b')) :: Rz p ps x3 x4 x5 x6 (some (.val (.list (strL hooks)))) x8 x9 x10) ∧ (sub.map (·.1)).Sublist hooks ∧ ∀ q ∈ sub, (fun _ y => OthR y) q.1 q.2 := by
  refine draw_e (j := 11) (I := I_zface_5) (T := fYes) (E := E_zface_5) (b0 := b) (b := b) (rest := Rz p ps x3 x4 x5 x6 (some (.val (.list (strL hooks)))) x8 x9 x10) (names := hooks) (fun _ y => OthR y) (by simp) rfl hl (by
    unfold I_zface_5
    simp! []) (fun n mn b => ?_)
  obtain ⟨r, b', e, o⟩ := hook_ex b n p ps hp (th n mn) tp
  refine .inr ⟨b, r, b', rfl, ?_, o⟩
  unfold E_zface_5
  simp! [e]

theorem c6_ex (b : Bg) : ∃ (sub : List (Str × D)) (b' : Bg), C_zface_6 (some (.ref (bagD b)) :: Rz p ps x3 x4 x5 x6 x7 x8 x9 x10) = .ok (.list (sub.map (·.2))) (some (.ref (bagD b')) :: Rz p ps x3 x4 x5 x6 x7 x8 x9 x10) ∧ (sub.map (·.1)).Sublist (["a", "b"] : List Str) ∧ ∀ q ∈ sub, (fun _ y => OthR y) q.1 q.2 := by
  obtain ⟨ws, b1, ews, sl⟩ := two_ex b 2 (by omega) (by omega)
  have lw : ws.length ≤ 2 := sl.length_le
  obtain ⟨sub, b', e, s2, g⟩ := draw_e (j := 12) (I := I_zface_6) (T := fYes) (E := E_zface_6) (b0 := b) (b := b1) (rest0 := Rz p ps x3 x4 x5 x6 x7 x8 x9 x10) (rest := Rz p ps x3 x4 x5 x6 x7 x8 x9 x10) (names := ws) (fun _ y => OthR y) (by simp) rfl (by omega) (by
    unfold I_zface_6
    simp! [ews]) (fun n mn b => by
    have t1 := take_e b 3 (by omega) (by omega)
    have v0 := takeV_nn (b := b) (m := 3) (by omega)
    have v9 := takeV_lt (b := b) (m := 3) (by omega)
    generalize takeV b 3 = v at *
    generalize takeB b 3 = b2 at *
    refine .inr ⟨b, .tuple [.str "on", .str n, .int v], b2, rfl, ?_, oth_of (by decide) rfl rfl (by simp [PyData.depth, PyData.depthAll]) (.cons (two_t (sl.subset mn)) (.cons (T1.int (by omega) (by omega)) .nil))⟩
    unfold E_zface_6
    simp! [t1])
  exact ⟨sub, b', e, s2.trans sl, g⟩

theorem c7_ex (b : Bg) (w : Str) : ∃ (sub : List (Str × D)) (b' : Bg), C_zface_7 (some (.ref (bagD b)) :: Rz p ps x3 x4 x5 x6 x7 x8 (some (.val (.str w))) x10) = .ok (.list (sub.map (·.2))) (some (.ref (bagD b')) :: Rz p ps x3 x4 x5 x6 x7 x8 (some (.val (.str w))) x10) ∧ (sub.map (·.1)).Sublist (["a", "b"] : List Str) ∧ ∀ q ∈ sub, (fun n y => ∃ k : Int, y = .tuple [.str "right", .str w, .str n, .int k] ∧ 1 ≤ k ∧ k ≤ 3) q.1 q.2 := by
  obtain ⟨ws, b1, ews, sl⟩ := two_ex b 2 (by omega) (by omega)
  have lw : ws.length ≤ 2 := sl.length_le
  obtain ⟨sub, b', e, s2, g⟩ := draw_e (j := 13) (I := I_zface_7) (T := fYes) (E := E_zface_7) (b0 := b) (b := b1) (rest0 := Rz p ps x3 x4 x5 x6 x7 x8 (some (.val (.str w))) x10) (rest := Rz p ps x3 x4 x5 x6 x7 x8 (some (.val (.str w))) x10) (names := ws) (fun n y => ∃ k : Int, y = .tuple [.str "right", .str w, .str n, .int k] ∧ 1 ≤ k ∧ k ≤ 3) (by simp) rfl (by omega) (by
    unfold I_zface_7
    simp! [ews]) (fun n mn b => by
    have t1 := take_e b 3 (by omega) (by omega)
    have v0 := takeV_nn (b := b) (m := 3) (by omega)
    have v1 := takeV_lt (b := b) (m := 3) (by omega)
    generalize takeV b 3 = v at *
    generalize takeB b 3 = b2 at *
    refine .inr ⟨b, .tuple [.str "right", .str w, .str n, .int (1 + v)], b2, rfl, ?_, 1 + v, rfl, by omega, by omega⟩
    unfold E_zface_7
    simp! [t1])
  exact ⟨sub, b', e, s2.trans sl, g⟩

theorem c9_ex (b : Bg) : ∃ (sub : List (Str × D)) (b' : Bg), C_zface_9 (some (.ref (bagD b)) :: Rz p ps x3 x4 x5 x6 x7 x8 x9 x10) = .ok (.list (sub.map (·.2))) (some (.ref (bagD b')) :: Rz p ps x3 x4 x5 x6 x7 x8 x9 x10) ∧ (sub.map (·.1)).Sublist (["a", "b"] : List Str) ∧ ∀ q ∈ sub, (fun n y => ∃ k : Int, y = .tuple [.str "default", .str n, .int k] ∧ numOk k) q.1 q.2 := by
  obtain ⟨ws, b1, ews, sl⟩ := two_ex b 3 (by omega) (by omega)
  have lw : ws.length ≤ 2 := sl.length_le
  obtain ⟨sub, b', e, s2, g⟩ := draw_e (j := 14) (I := I_zface_9) (T := fYes) (E := E_zface_9) (b0 := b) (b := b1) (rest0 := Rz p ps x3 x4 x5 x6 x7 x8 x9 x10) (rest := Rz p ps x3 x4 x5 x6 x7 x8 x9 x10) (names := ws) (fun n y => ∃ k : Int, y = .tuple [.str "default", .str n, .int k] ∧ numOk k) (by simp) rfl (by omega) (by
    unfold I_zface_9
    simp! [ews]) (fun n mn b => by
    obtain ⟨v, b2, t1, v0⟩ := number_ex b
    refine .inr ⟨b, .tuple [.str "default", .str n, .int v], b2, rfl, ?_, v, rfl, v0⟩
    unfold E_zface_9
    simp! [t1])
  exact ⟨sub, b', e, s2.trans sl, g⟩

theorem c11_ex (b : Bg) : ∃ (sub : List (Str × D)) (b' : Bg), C_zface_11 (some (.ref (bagD b)) :: Rz p ps x3 x4 x5 x6 x7 x8 x9 x10) = .ok (.list (sub.map (·.2))) (some (.ref (bagD b')) :: Rz p ps x3 x4 x5 x6 x7 x8 x9 x10) ∧ (sub.map (·.1)).Sublist (["a", "b"] : List Str) ∧ ∀ q ∈ sub, (fun _ y => OthR y) q.1 q.2 := by
  obtain ⟨ws, b1, ews, sl⟩ := two_ex b 3 (by omega) (by omega)
  have lw : ws.length ≤ 2 := sl.length_le
  obtain ⟨sub, b', e, s2, g⟩ := draw_e (j := 14) (I := I_zface_11) (T := fYes) (E := E_zface_11) (b0 := b) (b := b1) (rest0 := Rz p ps x3 x4 x5 x6 x7 x8 x9 x10) (rest := Rz p ps x3 x4 x5 x6 x7 x8 x9 x10) (names := ws) (fun _ y => OthR y) (by simp) rfl (by omega) (by
    unfold I_zface_11
    simp! [ews]) (fun n mn b => by
    obtain ⟨r, b2, t1, o⟩ := kept_ex b "own" n (.inr rfl) (two_t (sl.subset mn))
    refine .inr ⟨b, r, b2, rfl, ?_, o⟩
    unfold E_zface_11
    simp! [t1])
  exact ⟨sub, b', e, s2.trans sl, g⟩

theorem c10_ex (b : Bg) : ∃ (sub : List (Str × D)) (b' : Bg), C_zface_10 (some (.ref (bagD b)) :: Rz p ps x3 x4 x5 x6 x7 x8 x9 x10) = .ok (.list (sub.map (·.2))) (some (.ref (bagD b')) :: Rz p ps x3 x4 x5 x6 x7 x8 x9 x10) ∧ (sub.map (·.1)).Sublist (["a", "b"] : List Str) ∧ ∀ q ∈ sub, (fun _ y => OthR y) q.1 q.2 := by
  refine draw_e (j := 14) (I := I_zface_10) (T := T_zface_10) (E := E_zface_10) (b0 := b) (b := b) (rest := Rz p ps x3 x4 x5 x6 x7 x8 x9 x10) (names := (["a", "b"] : List Str)) (fun _ y => OthR y) (by simp) rfl (by decide) (by
    unfold I_zface_10
    simp! []
    rfl) (fun n mn b => ?_)
  have t1 := take_e b 3 (by omega) (by omega)
  generalize takeV b 3 = v at *
  generalize takeB b 3 = b1 at *
  have T : T_zface_10 (some (.ref (bagD b)) :: (Rz p ps x3 x4 x5 x6 x7 x8 x9 x10).set 14 (some (.val (.str n)))) = .ok (decide (v > 0)) (some (.ref (bagD b1)) :: (Rz p ps x3 x4 x5 x6 x7 x8 x9 x10).set 14 (some (.val (.str n)))) := by
    unfold T_zface_10
    simp! [t1, gt_i]
  by_cases h : v > 0
  · rw [dt h] at T
    obtain ⟨r, b2, t2, o⟩ := kept_ex b1 "key" n (.inl rfl) (two_t mn)
    refine .inr ⟨b1, r, b2, T, ?_, o⟩
    unfold E_zface_10
    simp! [t2]
  · rw [df h] at T
    exact .inl ⟨b1, T⟩

theorem c1_e (b : Bg) (calls : List Str) : ∃ rest : List Str, C_zface_1 (some (.ref (bagD b)) :: Rz p ps (some (.val (.list (strL (["a", "ab", "b"] : List Str))))) (some (.val (.list (strL calls)))) x5 x6 x7 x8 none x10) = .ok (.list (strL rest)) (some (.ref (bagD b)) :: Rz p ps (some (.val (.list (strL (["a", "ab", "b"] : List Str))))) (some (.val (.list (strL calls)))) x5 x6 x7 x8 none x10) ∧ rest.length ≤ 3 ∧ ∀ n ∈ rest, n ∈ (["a", "ab", "b"] : List Str) := by
  have e := comp_map (i := 9) (I := I_zface_1) (T := T_zface_1) (E := E_zface_1) (δ := some (.ref (bagD b)) :: Rz p ps (some (.val (.list (strL (["a", "ab", "b"] : List Str))))) (some (.val (.list (strL calls)))) x5 x6 x7 x8 none x10) (δ1 := some (.ref (bagD b)) :: Rz p ps (some (.val (.list (strL (["a", "ab", "b"] : List Str))))) (some (.val (.list (strL calls)))) x5 x6 x7 x8 none x10) (ds := strL (["a", "ab", "b"] : List Str)) (fun d => match d with | .str x => decide (x ∉ calls) | _ => false) id (by
      unfold I_zface_1
      simp! []) (by simp) rfl (by decide) (fun d m => by
      obtain ⟨x, _, rfl⟩ := List.mem_map.mp m
      refine ⟨?_, fun _ => ?_⟩
      · unfold T_zface_1
        simp! [Df.ni_list]
      · unfold E_zface_1
        simp! []
        rfl)
  refine ⟨(["a", "ab", "b"] : List Str).filter (fun x => decide (x ∉ calls)), ?_, List.length_filter_le _ _, fun n m => (List.mem_filter.mp m).1⟩
  unfold C_zface_1
  rw [e, List.map_id]
  unfold Lf.strL
  rw [List.filter_map]
  rfl
end
/-! ### the whole face -/
def dflD (p : Str × Int) : D := .tuple [.str "default", .str p.1, .int p.2]
def rgtD (p : Str × Str × Int) : D := .tuple [.str "right", .str p.1, .str p.2.1, .int p.2.2]
abbrev rKey (p : Str × Str × Int) : Str × Str := (p.1, p.2.1)
/-- what is known of a drawn face's rows -/
structure FaceR (rows : List D) (fr : List D) (rg : List (Str × Str × Int)) (df : List (Str × Int)) (bk : List D) : Prop where
  eq : rows = fr ++ (rg.map rgtD ++ (df.map dflD ++ bk))
  fr : ∀ r ∈ fr, OthR r
  bk : ∀ r ∈ bk, OthR r
  rn : (rg.map rKey).Nodup
  rb : ∀ p ∈ rg, 1 ≤ p.2.2 ∧ p.2.2 ≤ 3 ∧ TS p.1 ∧ TS p.2.1
  dn : (df.map (·.1)).Nodup
  db : ∀ p ∈ df, numOk p.2
  len : rows.length ≤ 30
  dt : ∀ p ∈ df, TS p.1
theorem addF_l {a c : List D} (h : a.length + c.length ≤ 1000000) : addF (.list a) (.list c) = some (.list (a ++ c)) := if_pos h
theorem conv {K : Type} {f : Str → K → D} {P : K → Prop} : ∀ {sub : List (Str × D)}, (∀ q ∈ sub, ∃ k, q.2 = f q.1 k ∧ P k) → ∃ l : List (Str × K), sub.map (·.2) = l.map (fun p => f p.1 p.2) ∧ l.map (·.1) = sub.map (·.1) ∧ ∀ p ∈ l, P p.2
  | [], _ => ⟨[], rfl, rfl, fun p m => by cases m⟩
  | q :: sub, h => by
    obtain ⟨k, e, pk⟩ := h q List.mem_cons_self
    obtain ⟨l, e1, e2, e3⟩ := conv (sub := sub) fun x m => h x (List.mem_cons_of_mem _ m)
    exact ⟨(q.1, k) :: l, by rw [List.map_cons, List.map_cons, e, e1], by rw [List.map_cons, List.map_cons, e2], fun p m => (List.mem_cons.mp m).elim (fun z => z ▸ pk) (e3 p)⟩
section
variable (p : Str) (ps : List Str) (x3 x4 x5 x6 x7 x10 : Option Cell)
theorem rights_ex : ∀ (ws : List Str) (b : Bg) (acc : List (Str × Str × Int)) (x9 : Option Cell), soft x9 = true → (∀ w ∈ ws, TS w) → ws.Nodup → (acc.map rKey).Nodup → (∀ r ∈ acc, r.1 ∉ ws ∧ 1 ≤ r.2.2 ∧ r.2.2 ≤ 3 ∧ TS r.1 ∧ TS r.2.1) → acc.length + 2 * ws.length ≤ 100 →
    ∃ (b' : Bg) (rg : List (Str × Str × Int)) (x9' : Option Cell), sForL (bName 9) Y_zface_8 (strL ws) (some (.ref (bagD b)) :: Rz p ps x3 x4 x5 x6 x7 (some (.val (.list (acc.map rgtD)))) x9 x10) = .next (some (.ref (bagD b')) :: Rz p ps x3 x4 x5 x6 x7 (some (.val (.list (rg.map rgtD)))) x9' x10) ∧ soft x9' = true ∧
      (rg.map rKey).Nodup ∧ (∀ r ∈ rg, 1 ≤ r.2.2 ∧ r.2.2 ≤ 3 ∧ TS r.1 ∧ TS r.2.1) ∧ rg.length ≤ acc.length + 2 * ws.length
  | [], b, acc, x9, s9, _, _, hn, ha, _ => ⟨b, acc, x9, rfl, s9, hn, fun r m => (ha r m).2, by simp⟩
  | w :: ws, b, acc, x9, s9, tw, hw, hn, ha, hl => by
    obtain ⟨sub, b1, e, sl, g⟩ := c7_ex p ps x3 x4 x5 x6 x7 (some (.val (.list (acc.map rgtD)))) x10 b w
    obtain ⟨l, e1, e2, e3⟩ := conv (f := fun n (k : Int) => .tuple [.str "right", .str w, .str n, .int k]) (P := fun k => 1 ≤ k ∧ k ≤ 3) g
    have ll : l.length ≤ 2 := by
      have := congrArg List.length e2
      rw [List.length_map] at this
      rw [this]
      exact sl.length_le
    have en : sub.map (·.2) = (l.map fun q => (w, q.1, q.2)).map rgtD := by
      rw [e1, List.map_map]
      rfl
    rw [en] at e
    obtain ⟨hw1, hw2⟩ := List.nodup_cons.mp hw
    simp only [List.length_cons] at hl
    have st : Y_zface_8 (some (.ref (bagD b)) :: Rz p ps x3 x4 x5 x6 x7 (some (.val (.list (acc.map rgtD)))) (some (.val (.str w))) x10) = .next (some (.ref (bagD b1)) :: Rz p ps x3 x4 x5 x6 x7 (some (.val (.list ((acc ++ l.map fun q => (w, q.1, q.2)).map rgtD)))) (some (.val (.str w))) x10) := by
      have ad := addF_l (a := acc.map rgtD) (c := (l.map fun q => (w, q.1, q.2)).map rgtD) (by simp only [List.length_map]; omega)
      rw [← List.map_append] at ad
      unfold Y_zface_8
      generalize C_zface_7 = C at *
      simp! [e, ad]
    have nd : ((acc ++ l.map fun q => (w, q.1, q.2)).map rKey).Nodup := by
      rw [List.map_append, List.map_map]
      refine List.nodup_append.mpr ⟨hn, ?_, fun a ma c mc z => ?_⟩
      · have : (l.map (·.1)).Nodup := by
          rw [e2]
          exact sl.nodup (by decide)
        have e4 : l.map (rKey ∘ fun q : Str × Int => (w, q.1, q.2)) = (l.map (·.1)).map fun n => (w, n) := by
          rw [List.map_map]
          rfl
        rw [e4]
        exact List.Pairwise.map _ (fun x y h z => h (by injection z)) this
      · obtain ⟨r, mr, rfl⟩ := List.mem_map.mp ma
        obtain ⟨q, mq, rfl⟩ := List.mem_map.mp mc
        have : r.1 = w := congrArg Prod.fst z
        exact (ha r mr).1 (this ▸ List.mem_cons_self)
    obtain ⟨b2, rg, x9', e5, s5, n5, b5, l5⟩ := rights_ex ws b1 (acc ++ l.map fun q => (w, q.1, q.2)) (some (.val (.str w))) rfl (fun v m => tw v (List.mem_cons_of_mem _ m)) hw2 nd (fun r m => by
      rcases List.mem_append.mp m with m | m
      · obtain ⟨h1, h2⟩ := ha r m
        exact ⟨fun z => h1 (List.mem_cons_of_mem _ z), h2⟩
      · obtain ⟨q, mq, rfl⟩ := List.mem_map.mp m
        exact ⟨hw1, (e3 q mq).1, (e3 q mq).2, tw w List.mem_cons_self, two_t (sl.subset (e2 ▸ List.mem_map.mpr ⟨q, mq, rfl⟩))⟩) (by rw [List.length_append, List.length_map]; omega)
    refine ⟨b2, rg, x9', ?_, s5, n5, b5, ?_⟩
    · show sForL _ _ (PyData.str w :: strL ws) _ = _
      have bn : bName 9 (.str w) (some (.ref (bagD b)) :: Rz p ps x3 x4 x5 x6 x7 (some (.val (.list (acc.map rgtD)))) x9 x10) = some (some (.ref (bagD b)) :: Rz p ps x3 x4 x5 x6 x7 (some (.val (.list (acc.map rgtD)))) (some (.val (.str w))) x10) := by
        simp! [s9]
      rw [forL_cons, bn, for1_e, st, for2_n]
      exact e5
    · rw [List.length_append, List.length_map] at l5
      simp only [List.length_cons]
      omega
end
theorem for_g2 {I : Fe (List D)} {B : Bd} {Y : Fs} {δ δ1 : DEnv} {l : List D} {r : RS} (h : I δ = .ok l δ1) (e : sForL B Y l δ1 = r) : sFor I B Y δ = r := by
  show (I δ).bindS _ = _
  rw [h]
  exact e
theorem cut_pre {α : Type} (xs : List α) (hi : Option Int) : ∃ n, cutD xs none hi = xs.take n := ⟨_, by
  unfold cutD
  rw [HT.sIx_none, List.drop_zero, Nat.sub_zero]⟩
theorem face_ex (b : Bg) (p : Str) (ps : List Str) (hp : ps.length ≤ 9) (tp : ∀ q ∈ ps, TS q) : ∃ (rows fr : List D) (rg : List (Str × Str × Int)) (df : List (Str × Int)) (bk : List D) (b' : Bg), m_zface [.ref (bagD b), .val (.str p), .val (.list (strL ps))] = .ok (.val (.tuple rows)) [some (.ref (bagD b')), none, none] ∧ FaceR rows fr rg df bk := by
  obtain ⟨calls, b1, e1, l1⟩ := some_ex b ["a", "ab", "b"] 3 (by omega) (by omega) (by decide)
  have k1 : calls.length ≤ 3 := l1.length_le
  obtain ⟨rest, e2, k2, m2⟩ := c1_e p ps none none none none none b1 calls
  obtain ⟨asks, b2, e3, l3⟩ := some_ex b1 rest 4 (by omega) (by omega) (by omega)
  have k3 : asks.length ≤ 3 := Nat.le_trans l3.length_le k2
  obtain ⟨s4, b3, e4, l4, g4⟩ := c2_ex p ps (some (.val (.list (strL (["a", "ab", "b"] : List Str))))) (some (.val (.list (strL asks)))) none none none none none b2 calls (by omega) (fun n m => ab_t (l1.subset m))
  have k4 : s4.length ≤ 3 := by
    have := l4.length_le
    rw [List.length_map] at this
    omega
  obtain ⟨s5, b4, e5, l5, g5⟩ := c3_ex p ps (some (.val (.list (strL (["a", "ab", "b"] : List Str))))) (some (.val (.list (strL calls)))) (some (.own (.list (s4.map (·.2))))) none none none none b3 asks (by omega) (fun n m => ab_t (m2 n (l3.subset m)))
  have k5 : s5.length ≤ 3 := by
    have := l5.length_le
    rw [List.length_map] at this
    omega
  have a5 := addF_l (a := s4.map (·.2)) (c := s5.map (·.2)) (by simp only [List.length_map]; omega)
  rw [← List.map_append] at a5
  obtain ⟨s6, b5, e6, l6, g6⟩ := c4_ex p ps (some (.val (.list (strL (["a", "ab", "b"] : List Str))))) (some (.val (.list (strL calls)))) (some (.val (.list (strL asks)))) (some (.val (.list ((s4 ++ s5).map (·.2))))) none none none none b4
  have k6 : s6.length ≤ 3 := by
    have := l6.length_le
    rw [List.length_map] at this
    exact this
  have y6 : s6.map (·.2) = strL (s6.map (·.1)) := by
    unfold Lf.strL
    rw [List.map_map]
    exact List.map_congr_left fun q m => g6 q m
  rw [y6] at e6
  obtain ⟨s7, b6, e7, l7, g7⟩ := c5_ex p ps (some (.val (.list (strL (["a", "ab", "b"] : List Str))))) (some (.val (.list (strL calls)))) (some (.val (.list (strL asks)))) (some (.val (.list ((s4 ++ s5).map (·.2))))) none none none b5 (s6.map (·.1)) (by rw [List.length_map]; omega) hp (fun n m => ab_t (l6.subset m)) tp
  have k7 : s7.length ≤ 3 := by
    have := l7.length_le
    rw [List.length_map, List.length_map] at this
    omega
  have a7 := addF_l (a := (s4 ++ s5).map (·.2)) (c := s7.map (·.2)) (by simp only [List.length_map, List.length_append]; omega)
  rw [← List.map_append] at a7
  obtain ⟨s8, b7, e8, l8, g8⟩ := c6_ex p ps (some (.val (.list (strL (["a", "ab", "b"] : List Str))))) (some (.val (.list (strL calls)))) (some (.val (.list (strL asks)))) (some (.val (.list ((s4 ++ s5 ++ s7).map (·.2))))) (some (.val (.list (strL (s6.map (·.1)))))) none none none b6
  have k8 : s8.length ≤ 2 := by
    have := l8.length_le
    rw [List.length_map] at this
    exact this
  have a8 := addF_l (a := (s4 ++ s5 ++ s7).map (·.2)) (c := s8.map (·.2)) (by simp only [List.length_map, List.length_append]; omega)
  rw [← List.map_append] at a8
  obtain ⟨b8, rg, x9, e9, h9, n9, r9, k9⟩ := rights_ex p ps (some (.val (.list (strL (["a", "ab", "b"] : List Str))))) (some (.val (.list (strL calls)))) (some (.val (.list (strL asks)))) (some (.val (.list ((s4 ++ s5 ++ s7 ++ s8).map (·.2))))) (some (.val (.list (strL (s6.map (·.1)))))) none
    ["emit", "get", "put", "read", "send"] b7 [] none rfl (fun w m => (by
      have h : ∀ w ∈ (["emit", "get", "put", "read", "send"] : List Str), tinyB (.str w) = true ∧ w.length ≤ 10 := by decide +kernel
      exact T1.lit (h w m).1 (h w m).2)) (by decide) (by decide) (fun r m => by cases m) (by decide)
  have k9 : rg.length ≤ 10 := k9
  obtain ⟨s10, b9, e10, l10, g10⟩ := c9_ex p ps (some (.val (.list (strL (["a", "ab", "b"] : List Str))))) (some (.val (.list (strL calls)))) (some (.val (.list (strL asks)))) (some (.val (.list ((s4 ++ s5 ++ s7 ++ s8).map (·.2))))) (some (.val (.list (strL (s6.map (·.1)))))) (some (.val (.list (rg.map rgtD)))) x9 none b8
  obtain ⟨df, f1, f2, f3⟩ := conv (f := fun n (k : Int) => .tuple [.str "default", .str n, .int k]) (P := numOk) g10
  have k10 : df.length ≤ 2 := by
    have := congrArg List.length f2
    rw [List.length_map] at this
    rw [this]
    exact l10.length_le
  have y10 : s10.map (·.2) = df.map dflD := f1
  rw [y10] at e10
  obtain ⟨s11, b10, e11, l11, g11⟩ := c10_ex p ps (some (.val (.list (strL (["a", "ab", "b"] : List Str))))) (some (.val (.list (strL calls)))) (some (.val (.list (strL asks)))) (some (.val (.list ((s4 ++ s5 ++ s7 ++ s8).map (·.2))))) (some (.val (.list (strL (s6.map (·.1)))))) (some (.val (.list (rg.map rgtD)))) x9 (some (.own (.list (df.map dflD)))) b9
  have k11 : s11.length ≤ 2 := by
    have := l11.length_le
    rw [List.length_map] at this
    exact this
  have a11 := addF_l (a := df.map dflD) (c := s11.map (·.2)) (by simp only [List.length_map]; omega)
  obtain ⟨s12, b11, e12, l12, g12⟩ := c11_ex p ps (some (.val (.list (strL (["a", "ab", "b"] : List Str))))) (some (.val (.list (strL calls)))) (some (.val (.list (strL asks)))) (some (.val (.list ((s4 ++ s5 ++ s7 ++ s8).map (·.2))))) (some (.val (.list (strL (s6.map (·.1)))))) (some (.val (.list (rg.map rgtD)))) x9 (some (.val (.list (df.map dflD ++ s11.map (·.2))))) b10
  have k12 : s12.length ≤ 2 := by
    have := l12.length_le
    rw [List.length_map] at this
    exact this
  have a12 := addF_l (a := df.map dflD ++ s11.map (·.2)) (c := s12.map (·.2)) (by simp only [List.length_map, List.length_append]; omega)
  rw [List.append_assoc, ← List.map_append] at a12
  have t13 := take_e b11 60 (by omega) (by omega)
  have v0 := takeV_nn (b := b11) (m := 60) (by omega)
  have v9 := takeV_lt (b := b11) (m := 60) (by omega)
  generalize takeV b11 60 = v13 at *
  generalize takeB b11 60 = b12 at *
  have t14 := take_e b12 3 (by omega) (by omega)
  generalize takeV b12 3 = v14 at *
  generalize takeB b12 3 = b13 at *
  obtain ⟨sp, m13, ksp, gsp⟩ : ∃ sp : List D, mulG (.list [.tuple [.str "steps", .int (1 + v13)]]) (.int (if v14 = 0 then 1 else 0)) = some (.list sp) ∧ sp.length ≤ 1 ∧ ∀ r ∈ sp, OthR r := by
    by_cases h : v14 = 0
    · rw [if_pos h]
      refine ⟨[.tuple [.str "steps", .int (1 + v13)]], rfl, by simp, fun r m => ?_⟩
      rw [List.mem_singleton.mp m]
      exact oth_of (by decide) rfl rfl (by simp [PyData.depth, PyData.depthAll]) (.cons (T1.int (by omega) (by omega)) .nil)
    · rw [if_neg h]
      exact ⟨[], rfl, by simp, fun r m => by cases m⟩
  have a13 := addF_l (a := df.map dflD ++ (s11 ++ s12).map (·.2)) (c := sp) (by simp only [List.length_map, List.length_append]; omega)
  rw [List.append_assoc] at a13
  generalize hF : (s4 ++ s5 ++ s7 ++ s8).map (·.2) = F at *
  generalize hB : (s11 ++ s12).map (·.2) ++ sp = B at *
  have kF : F.length ≤ 11 := by
    rw [← hF]
    simp only [List.length_map, List.length_append]
    omega
  have kB : B.length ≤ 5 := by
    rw [← hB]
    simp only [List.length_map, List.length_append]
    omega
  obtain ⟨n, cu⟩ := cut_pre (rg.map rgtD) (some ((16 : Int) - (F.length : Int) - ((df.map dflD ++ B).length : Int)))
  rw [← List.map_take] at cu
  have kr : (rg.take n).length ≤ 10 := Nat.le_trans (List.length_take_le' _ _) k9
  have a14 := addF_l (a := F) (c := (rg.take n).map rgtD) (by simp only [List.length_map]; omega)
  have a15 := addF_l (a := F ++ (rg.take n).map rgtD) (c := df.map dflD ++ B) (by simp only [List.length_map, List.length_append]; omega)
  refine ⟨_, F, rg.take n, df, B, b13, ?_, rfl, ?_, ?_, ?_, ?_, ?_, ?_, ?_, fun q m => two_t (l10.subset (f2 ▸ List.mem_map.mpr ⟨q, m, rfl⟩))⟩
  · have q14 : eqF (.int v14) (.int 0) = some (.bool (decide (v14 = 0))) := eqF_i
    have i14 : intF [.bool (decide (v14 = 0))] = some (.int (if v14 = 0 then 1 else 0)) := by
      by_cases h : v14 = 0
      · rw [Kd.dt h, if_pos h]; rfl
      · rw [Kd.df h, if_neg h]; rfl
    have n1 : lenF [.list F] = some (.int F.length) := rfl
    have n2 : lenF [.list (df.map dflD ++ B)] = some (.int (df.map dflD ++ B).length) := rfl
    have tu : ∀ l : List D, tupleF [.list l] = some (.tuple l) := fun _ => rfl
    have sl : sliceF (.list (rg.map rgtD)) none (some ((16 : Int) - (F.length : Int) - ((df.map dflD ++ B).length : Int))) = some (.list ((rg.take n).map rgtD)) := by
      show some (PyData.list (cutD _ _ _)) = _
      rw [cu]
    generalize (df.map dflD ++ B).length = nB at *
    generalize F.length = nF at *
    unfold m_zface
    rw [start _ _ _ _ (by rfl)]
    have hs : strL (["a", "ab", "b"] : List Str) = [.str "a", .str "ab", .str "b"] := rfl
    have hL : L_zface_8 (some (.ref (bagD b7)) :: Rz p ps (some (.val (.list (strL (["a", "ab", "b"] : List Str))))) (some (.val (.list (strL calls)))) (some (.val (.list (strL asks)))) (some (.val (.list F))) (some (.val (.list (strL (s6.map (·.1)))))) (some (.val (.list []))) none none) = .next (some (.ref (bagD b8)) :: Rz p ps (some (.val (.list (strL (["a", "ab", "b"] : List Str))))) (some (.val (.list (strL calls)))) (some (.val (.list (strL asks)))) (some (.val (.list F))) (some (.val (.list (strL (s6.map (·.1)))))) (some (.val (.list (rg.map rgtD)))) x9 none) := by
      have hI : I_zface_8 (some (.ref (bagD b7)) :: Rz p ps (some (.val (.list (strL (["a", "ab", "b"] : List Str))))) (some (.val (.list (strL calls)))) (some (.val (.list (strL asks)))) (some (.val (.list F))) (some (.val (.list (strL (s6.map (·.1)))))) (some (.val (.list []))) none none) = .ok (strL (["emit", "get", "put", "read", "send"] : List Str)) (some (.ref (bagD b7)) :: Rz p ps (some (.val (.list (strL (["a", "ab", "b"] : List Str))))) (some (.val (.list (strL calls)))) (some (.val (.list (strL asks)))) (some (.val (.list F))) (some (.val (.list (strL (s6.map (·.1)))))) (some (.val (.list []))) none none) := by
        unfold I_zface_8
        simp! []
        rfl
      exact for_g2 hI e9
    unfold F_zface
    generalize L_zface_8 = L8 at *
    generalize C_zface_1 = C1 at *
    generalize C_zface_2 = C2 at *
    generalize C_zface_3 = C3 at *
    generalize C_zface_4 = C4 at *
    generalize C_zface_5 = C5 at *
    generalize C_zface_6 = C6 at *
    generalize C_zface_9 = C9 at *
    generalize C_zface_10 = C10 at *
    generalize C_zface_11 = C11 at *
    simp only [hs] at e1 e2 e3 e4 e5 e6 e7 e8 e9 e10 e11 e12 hL
    simp! [e1, e2, e3, e4, e5, a5, e6, e7, a7, e8, a8, hL, e10, e11, a11, e12, a12, t13, t14, q14, i14, m13, a13, n1, n2, sl, a14, a15, tu]
    rw [List.append_assoc]
  · intro r m
    rw [← hF] at m
    obtain ⟨q, mq, rfl⟩ := List.mem_map.mp m
    simp only [List.mem_append] at mq
    rcases mq with ((mq | mq) | mq) | mq
    · exact g4 q mq
    · exact g5 q mq
    · exact g7 q mq
    · exact g8 q mq
  · intro r m
    rw [← hB] at m
    rcases List.mem_append.mp m with m | m
    · obtain ⟨q, mq, rfl⟩ := List.mem_map.mp m
      rcases List.mem_append.mp mq with mq | mq
      · exact g11 q mq
      · exact g12 q mq
    · exact gsp r m
  · rw [List.map_take]
    exact (List.take_sublist _ _).nodup n9
  · exact fun q m => r9 q (List.mem_of_mem_take m)
  · rw [f2]
    exact l10.nodup (by decide)
  · exact f3
  · simp only [List.length_map, List.length_append]
    omega
/-! ### bodies -/
structure Flat2 (d : D) : Prop where
  pl : PyData.plain d = true
  dp : PyData.depth d ≤ 3
  ti : T1 d 260
theorem flat_of {ds : List D} {m : Nat} (h : PyData.plain (.tuple ds) = true) (k : PyData.depth (.tuple ds) ≤ 3) (t : TA ds m) (l : m ≤ 255 := by decide) : Flat2 (.tuple ds) := ⟨h, k, T1.mono (T1.tup t) (by omega)⟩
theorem wd_t {x : Str} {l : List Str} (m : x ∈ l) (hl : ∀ w ∈ l, tinyB (.str w) = true ∧ w.length ≤ 10) : TS x := T1.lit (hl x m).1 (hl x m).2
theorem pick {α : Type} (l : List α) {i : Int} (h0 : 0 ≤ i) (h1 : i < (l.length : Int)) : ∃ x ∈ l, L2.atI l i = some x := by
  obtain ⟨n, rfl⟩ := Int.eq_ofNat_of_zero_le h0
  have lt : n < l.length := by omega
  refine ⟨l[n], List.getElem_mem lt, ?_⟩
  rw [atI_nat', atN_get, List.getElem?_eq_getElem lt]
theorem pick_s (l : List Str) {i : Int} (h0 : 0 ≤ i) (h1 : i < (l.length : Int)) : ∃ x ∈ l, L2.atI (strL l) i = some (.str x) := by
  obtain ⟨d, m, e⟩ := pick (strL l) h0 (by unfold Lf.strL; rw [List.length_map]; exact h1)
  obtain ⟨x, mx, rfl⟩ := List.mem_map.mp m
  exact ⟨x, mx, e⟩
theorem step_ex (b : Bg) (at_ many : Int) (h0 : 0 ≤ at_) (h1 : at_ < many) (h2 : many ≤ 100) : ∃ d b', m_zstep [.ref (bagD b), .val (.int at_), .val (.int many)] = .ok (.val d) [some (.ref (bagD b')), none, none] ∧ Flat2 d := by
  have t1 := take_e b 15 (by omega) (by omega)
  have a1 := takeV_nn (b := b) (m := 15) (by omega)
  have a2 := takeV_lt (b := b) (m := 15) (by omega)
  generalize takeV b 15 = w at *
  generalize takeB b 15 = b1 at *
  by_cases c1 : w < 3
  · obtain ⟨n, b2, t2, nk⟩ := number_ex b1
    obtain ⟨x, mx, px⟩ := pick_s ["set", "add", "times"] a1 c1
    have px : L2.atI ([.str "set", .str "add", .str "times"] : List D) w = some (.str x) := px
    refine ⟨.tuple [.str x, .int n], b2, ?_, flat_of rfl (by simp [PyData.depth, PyData.depthAll]) (.cons (wd_t mx (by decide +kernel)) (.cons (T1.int (by omega) (by omega)) .nil))⟩
    unfold m_zstep
    rw [start _ _ _ _ (by rfl)]
    unfold F_zstep
    simp! [t1, Kd.dt c1, px, t2]
  by_cases c2 : w < 11
  · obtain ⟨x, mx, px⟩ := pick_s ["load", "keep", "read", "get", "put", "ask", "emit", "send"] (i := w - 3) (by omega) (by show w - 3 < 8; omega)
    have px : L2.atI ([.str "load", .str "keep", .str "read", .str "get", .str "put", .str "ask", .str "emit", .str "send"] : List D) (w - 3) = some (.str x) := px
    have t2 := take_e b1 4 (by omega) (by omega)
    have d1 := takeV_nn (b := b1) (m := 4) (by omega)
    have d2 := takeV_lt (b := b1) (m := 4) (by omega)
    generalize takeV b1 4 = v at *
    generalize takeB b1 4 = b2 at *
    obtain ⟨y, my, py⟩ := pick_s ["a", "a", "b", "ab"] d1 d2
    have py : L2.atI ([.str "a", .str "a", .str "b", .str "ab"] : List D) v = some (.str y) := py
    refine ⟨.tuple [.str x, .str y], b2, ?_, flat_of rfl (by simp [PyData.depth, PyData.depthAll]) (.cons (wd_t mx (by decide +kernel)) (.cons (wd_t my (by decide +kernel)) .nil))⟩
    unfold m_zstep
    rw [start _ _ _ _ (by rfl)]
    unfold F_zstep
    simp! [t1, Kd.df c1, Kd.dt c2, px, t2, py]
  have w4 : w = 11 ∨ w = 12 ∨ w = 13 ∨ w = 14 := by omega
  have q11 : ∀ k : Int, eqF (.int w) (.int k) = some (.bool (decide (w = k))) := fun k => eqF_i
  have addE : ∀ b' : Bg, ∃ (v : Int) (b2 : Bg), Df.m_ztake [.ref (bagD b'), .val (.int 5)] = .ok (.val (.int v)) [some (.ref (bagD b2)), none] ∧ 0 ≤ v ∧ v < 5 := fun b' => ⟨_, _, take_e b' 5 (by omega) (by omega), takeV_nn (by omega), takeV_lt (by omega)⟩
  rcases w4 with rfl | rfl | rfl | rfl
  · by_cases c3 : at_ + 1 < many
    · have t2 := take_e b1 (many - at_ - 1) (by omega) (by omega)
      have v0 := takeV_nn (b := b1) (m := many - at_ - 1) (by omega)
      have v9 := takeV_lt (b := b1) (m := many - at_ - 1) (by omega)
      generalize takeV b1 (many - at_ - 1) = v at *
      generalize takeB b1 (many - at_ - 1) = b2 at *
      refine ⟨.tuple [.str "pass", .int (1 + v)], b2, ?_, flat_of rfl (by simp [PyData.depth, PyData.depthAll]) (.cons (T1.lit (by decide +kernel) (by decide)) (.cons (T1.int (by omega) (by omega)) .nil))⟩
      unfold m_zstep
      rw [start _ _ _ _ (by rfl)]
      unfold F_zstep
      simp! [t1, Kd.df c1, Kd.df c2, Kd.dt c3, t2, Int.reduceEq]
    · obtain ⟨v, b2, t2, v0, v9⟩ := addE b1
      refine ⟨.tuple [.str "add", .int (1 + v)], b2, ?_, flat_of rfl (by simp [PyData.depth, PyData.depthAll]) (.cons (T1.lit (by decide +kernel) (by decide)) (.cons (T1.int (by omega) (by omega)) .nil))⟩
      unfold m_zstep
      rw [start _ _ _ _ (by rfl)]
      unfold F_zstep
      simp! [t1, Kd.df c1, Kd.df c2, Kd.df c3, t2, Int.reduceEq]
  · by_cases c3 : at_ > 0
    · have t2 := take_e b1 2 (by omega) (by omega)
      generalize takeV b1 2 = u at *
      generalize takeB b1 2 = b2 at *
      by_cases c4 : u = 0
      · subst c4
        have t3 := take_e b2 at_ (by omega) (by omega)
        have v0 := takeV_nn (b := b2) (m := at_) (by omega)
        have v9 := takeV_lt (b := b2) (m := at_) (by omega)
        generalize takeV b2 at_ = v at *
        generalize takeB b2 at_ = b3 at *
        refine ⟨.tuple [.str "back", .int (1 + v)], b3, ?_, flat_of rfl (by simp [PyData.depth, PyData.depthAll]) (.cons (T1.lit (by decide +kernel) (by decide)) (.cons (T1.int (by omega) (by omega)) .nil))⟩
        unfold m_zstep
        rw [start _ _ _ _ (by rfl)]
        unfold F_zstep
        simp! [t1, Kd.df c1, Kd.df c2, Kd.dt c3, t2, t3, Int.reduceEq]
      · obtain ⟨v, b3, t3, v0, v9⟩ := addE b2
        refine ⟨.tuple [.str "add", .int (1 + v)], b3, ?_, flat_of rfl (by simp [PyData.depth, PyData.depthAll]) (.cons (T1.lit (by decide +kernel) (by decide)) (.cons (T1.int (by omega) (by omega)) .nil))⟩
        unfold m_zstep
        rw [start _ _ _ _ (by rfl)]
        unfold F_zstep
        simp! [t1, Kd.df c1, Kd.df c2, Kd.dt c3, Kd.df c4, t2, t3, Int.reduceEq]
    · obtain ⟨v, b2, t2, v0, v9⟩ := addE b1
      refine ⟨.tuple [.str "add", .int (1 + v)], b2, ?_, flat_of rfl (by simp [PyData.depth, PyData.depthAll]) (.cons (T1.lit (by decide +kernel) (by decide)) (.cons (T1.int (by omega) (by omega)) .nil))⟩
      unfold m_zstep
      rw [start _ _ _ _ (by rfl)]
      unfold F_zstep
      simp! [t1, Kd.df c1, Kd.df c2, Kd.df c3, t2, Int.reduceEq]
  · have t2 := take_e b1 3 (by omega) (by omega)
    generalize takeV b1 3 = u at *
    generalize takeB b1 3 = b2 at *
    by_cases c4 : u = 0
    · subst c4
      refine ⟨.tuple [.str "refuse"], b2, ?_, flat_of rfl (by simp [PyData.depth, PyData.depthAll]) (.cons (T1.lit (by decide +kernel) (by decide)) .nil)⟩
      unfold m_zstep
      rw [start _ _ _ _ (by rfl)]
      unfold F_zstep
      simp! [t1, Kd.df c1, Kd.df c2, t2, Int.reduceEq]
    · obtain ⟨v, b3, t3, v0, v9⟩ := addE b2
      refine ⟨.tuple [.str "add", .int (1 + v)], b3, ?_, flat_of rfl (by simp [PyData.depth, PyData.depthAll]) (.cons (T1.lit (by decide +kernel) (by decide)) (.cons (T1.int (by omega) (by omega)) .nil))⟩
      unfold m_zstep
      rw [start _ _ _ _ (by rfl)]
      unfold F_zstep
      simp! [t1, Kd.df c1, Kd.df c2, Kd.df c4, t2, t3, Int.reduceEq]
  · obtain ⟨v, b2, t2, v0, v9⟩ := addE b1
    refine ⟨.tuple [.str "add", .int (1 + v)], b2, ?_, flat_of rfl (by simp [PyData.depth, PyData.depthAll]) (.cons (T1.lit (by decide +kernel) (by decide)) (.cons (T1.int (by omega) (by omega)) .nil))⟩
    unfold m_zstep
    rw [start _ _ _ _ (by rfl)]
    unfold F_zstep
    simp! [t1, Kd.df c1, Kd.df c2, t2, Int.reduceEq]
theorem steps_ex (b : Bg) (fa ns fo row : D) (m : Int) (h0 : 0 ≤ m) (h1 : m ≤ 100) (x6 x7 : Option Cell) : ∃ (l : List D) (b' : Bg), C_zbody_1 [some (.ref (bagD b)), some (.val fa), some (.val ns), some (.own fo), some (.val row), some (.val (.int m)), x6, x7, none] = .ok (.list l) [some (.ref (bagD b')), some (.val fa), some (.val ns), some (.own fo), some (.val row), some (.val (.int m)), x6, x7, none] ∧ (l.length : Int) ≤ m ∧ ∀ d ∈ l, Flat2 d := by
  have hI : I_zbody_1 [some (.ref (bagD b)), some (.val fa), some (.val ns), some (.own fo), some (.val row), some (.val (.int m)), x6, x7, none] = .ok (rngL 0 m.toNat) [some (.ref (bagD b)), some (.val fa), some (.val ns), some (.own fo), some (.val row), some (.val (.int m)), x6, x7, none] := by
    unfold I_zbody_1
    simp! []
    rw [rng1_e (by omega) (by omega)]
  have lr : (rngL 0 m.toNat).length = m.toNat := by simp [rngL]
  obtain ⟨acc, δ2, e, hl, hg, b', hb⟩ := comp_inv (i := 8) (E := E_zbody_1) (fun δ => ∃ b', δ = [some (.ref (bagD b')), some (.val fa), some (.val ns), some (.own fo), some (.val row), some (.val (.int m)), x6, x7, none]) Flat2 hI rfl (by simp) (by rw [lr]; omega) ⟨b, rfl⟩ (fun δ ⟨b', h⟩ => by
    subst h
    exact ⟨rfl, rfl⟩) (fun d md δ ⟨b', h⟩ => by
    subst h
    obtain ⟨k, hk, rfl⟩ : ∃ k : Nat, k < m.toNat ∧ d = .int (k : Nat) := by
      simp only [rngL, List.mem_map, List.mem_range] at md
      obtain ⟨k, hk, rfl⟩ := md
      exact ⟨k, hk, by simp⟩
    obtain ⟨d, b2, t, f⟩ := step_ex b' (k : Int) m (by omega) (by omega) h1
    refine ⟨d, [some (.ref (bagD b2)), some (.val fa), some (.val ns), some (.own fo), some (.val row), some (.val (.int m)), x6, x7, some (.val (.int (k : Int)))], ?_, f, b2, rfl⟩
    unfold E_zbody_1
    generalize ((k : Nat) : Int) = kk at *
    simp! [t]) rfl
  subst hb
  exact ⟨acc, b', e, by rw [hl, lr]; omega, hg⟩
theorem flat_all : ∀ {l : List D}, (∀ d ∈ l, Flat2 d) → PyData.plainAll l = true ∧ PyData.depthAll l ≤ 3
  | [], _ => ⟨rfl, by simp [PyData.depthAll]⟩
  | d :: l, h => by
    obtain ⟨a, c⟩ := flat_all (l := l) fun x m => h x (List.mem_cons_of_mem _ m)
    have k := h d List.mem_cons_self
    simp only [PyData.plainAll, PyData.depthAll, k.pl, a, Bool.and_self, true_and]
    have := k.dp
    omega
structure Flat5 (d : D) : Prop where
  pl : PyData.plain d = true
  dp : PyData.depth d ≤ 5
  ti : T1 d 2100
theorem in_tup {w : Str} {l : List Str} : ∃ c, inF (.str w) (.tuple (strL l)) = some (.bool c) := ⟨_, by
  unfold inF
  show Option.map _ (if _ then _ else _) = _
  rw [if_pos ⟨rfl, strL_pl l, by simp [PyData.depth]⟩]
  rfl⟩
/-- what is done by the rows that are called -/
theorem body_ex (b : Bg) (rows : List D) (ns : List Str) (hn : 0 < ns.length) (hl : ns.length ≤ 1000) (hr : ∀ r ∈ rows, ∃ w rest, r = .tuple (.str w :: rest)) (hc : rows.length ≤ 1000) (tn : ∀ n ∈ ns, TS n) :
    ∃ (bs : List D) (b' : Bg), m_zbody [.ref (bagD b), .val (.tuple rows), .val (.list (strL ns))] = .ok (.val (.tuple bs)) [some (.ref (bagD b')), none, none] ∧ bs.length ≤ rows.length ∧ ∀ d ∈ bs, Flat5 d := by
  obtain ⟨δ', e, b', bs, x4, x5, x6, x7, hb, h4, h5, h6, h7, lb, fb⟩ := forL_at (B := bName 4) (F := Y_zbody_2) (fun i δ => ∃ (b : Bg) (bs : List D) (x4 x5 x6 x7 : Option Cell), δ = [some (.ref (bagD b)), some (.val (.tuple rows)), some (.val (.list (strL ns))), some (.own (.list bs)), x4, x5, x6, x7, none] ∧ soft x4 = true ∧ soft x5 = true ∧ soft x6 = true ∧ soft x7 = true ∧ bs.length ≤ i ∧ ∀ d ∈ bs, Flat5 d)
    rows [some (.ref (bagD b)), some (.val (.tuple rows)), some (.val (.list (strL ns))), some (.own (.list [])), none, none, none, none, none] ⟨b, [], none, none, none, none, rfl, rfl, rfl, rfl, rfl, Nat.le_refl _, fun d m => by cases m⟩
    (fun i d hd δ ⟨b, bs, x4, x5, x6, x7, hb, h4, h5, h6, h7, lb, fb⟩ => by
      subst hb
      obtain ⟨w, rest, rfl⟩ := hr d (List.mem_of_getElem? hd)
      have hi : i < rows.length := (List.getElem?_eq_some_iff.mp hd).1
      refine ⟨_, by simp! [h4]; rfl, ?_⟩
      obtain ⟨c, ic⟩ := in_tup (w := w) (l := ["offer", "hook", "on"])
      have ic : inF (.str w) (.tuple [.str "offer", .str "hook", .str "on"]) = some (.bool c) := ic
      cases c with
      | false =>
        refine ⟨[some (.ref (bagD b)), some (.val (.tuple rows)), some (.val (.list (strL ns))), some (.own (.list bs)), some (.val (.tuple (.str w :: rest))), x5, x6, x7, none], .inl ?_, b, bs, _, _, _, _, rfl, rfl, h5, h6, h7, by omega, fb⟩
        unfold Y_zbody_2
        simp! [ic]
      | true =>
        have t1 := take_e b 8 (by omega) (by omega)
        have a1 := takeV_nn (b := b) (m := 8) (by omega)
        have a2 := takeV_lt (b := b) (m := 8) (by omega)
        generalize takeV b 8 = m at *
        generalize takeB b 8 = b1 at *
        obtain ⟨l, b2, ec, ll, fl⟩ := steps_ex b1 (.tuple rows) (.list (strL ns)) (.list bs) (.tuple (.str w :: rest)) m a1 (by omega) x6 x7
        have nl : lenF [.list (strL ns)] = some (.int ns.length) := by
          show some (PyData.int (List.length (List.map _ _))) = _
          rw [List.length_map]
        have t2 := take_e b2 (ns.length : Int) (by omega) (by omega)
        have d1 := takeV_nn (b := b2) (m := (ns.length : Int)) (by omega)
        have d2 := takeV_lt (b := b2) (m := (ns.length : Int)) (by omega)
        generalize takeV b2 (ns.length : Int) = v at *
        generalize takeB b2 (ns.length : Int) = b3 at *
        obtain ⟨y, my, py⟩ := pick_s ns d1 d2
        have t3 := take_e b3 3 (by omega) (by omega)
        have f1 := takeV_nn (b := b3) (m := 3) (by omega)
        have f2 := takeV_lt (b := b3) (m := 3) (by omega)
        generalize takeV b3 3 = u at *
        generalize takeB b3 3 = b4 at *
        obtain ⟨fp, fd⟩ := flat_all fl
        obtain ⟨z, mz, pz⟩ := pick ([.tuple [.str "steps", .tuple l], .tuple [.str "steps", .tuple l], .tuple [.str "stock", .str y]] : List D) f1 f2
        have fz : Flat5 z := by
          have : z = .tuple [.str "steps", .tuple l] ∨ z = .tuple [.str "stock", .str y] := by simpa using mz
          rcases this with rfl | rfl
          · have tl := TA.all (fun d m => (fl d m).ti)
            have tt := T1.tup (TA.cons (T1.lit (s := "steps") (by decide +kernel) (by decide)) (TA.cons (T1.tup tl) TA.nil))
            refine ⟨by simp only [PyData.plain, PyData.plainAll, fp, Bool.and_true, Bool.true_and], ?_, tt.mono (by omega)⟩
            simp only [PyData.depth, PyData.depthAll]
            omega
          · exact ⟨rfl, by simp [PyData.depth, PyData.depthAll], (T1.tup (TA.cons (T1.lit (s := "stock") (by decide +kernel) (by decide)) (TA.cons (tn y my) TA.nil))).mono (by decide)⟩
        have tu : tupleF [.list l] = some (.tuple l) := rfl
        have ap := app2_e (d := z) (δ := [some (.ref (bagD b4)), some (.val (.tuple rows)), some (.val (.list (strL ns))), some (.own (.list bs)), some (.val (.tuple (.str w :: rest))), some (.val (.int m)), some (.val (.tuple l)), some (.val (.tuple [.str "stock", .str y])), none]) 3 (show bs.length < 1000000 by omega)
        refine ⟨[some (.ref (bagD b4)), some (.val (.tuple rows)), some (.val (.list (strL ns))), some (.own (.list (bs ++ [z]))), some (.val (.tuple (.str w :: rest))), some (.val (.int m)), some (.val (.tuple l)), some (.val (.tuple [.str "stock", .str y])), none], .inl ?_, b4, bs ++ [z], _, _, _, _, rfl, rfl, rfl, rfl, rfl, by rw [List.length_append, List.length_singleton]; omega, fun d m => (List.mem_append.mp m).elim (fb d) fun m => by rw [List.mem_singleton.mp m]; exact fz⟩
        unfold Y_zbody_2
        generalize C_zbody_1 = C at *
        generalize (ns.length : Int) = nn at *
        simp! [ic, t1, ec, tu, nl, t2, py, t3, pz, ap, h5, h6, h7])
  subst hb
  refine ⟨bs, b', ?_, lb, fb⟩
  have hI : I_zbody_2 [some (.ref (bagD b)), some (.val (.tuple rows)), some (.val (.list (strL ns))), some (.own (.list [])), none, none, none, none, none] = .ok rows [some (.ref (bagD b)), some (.val (.tuple rows)), some (.val (.list (strL ns))), some (.own (.list [])), none, none, none, none, none] := by
    unfold I_zbody_2
    simp! []
  have hL : L_zbody_2 [some (.ref (bagD b)), some (.val (.tuple rows)), some (.val (.list (strL ns))), some (.own (.list [])), none, none, none, none, none] = _ := for_g2 hI e
  have tu : tupleF [.list bs] = some (.tuple bs) := rfl
  unfold m_zbody
  rw [start _ _ _ _ (by rfl)]
  unfold F_zbody
  generalize L_zbody_2 = L at *
  simp! [hL, tu]
/-- a drawn make -/
theorem make_ex (b : Bg) (p : Str) (ver : D) (ps ns : List Str) (hp : ps.length ≤ 9) (tp : ∀ q ∈ ps, TS q) (hn : 0 < ns.length) (hl : ns.length ≤ 1000) (tn : ∀ n ∈ ns, TS n) :
    ∃ (rows fr : List D) (rg : List (Str × Str × Int)) (df : List (Str × Int)) (bk bs : List D) (b' : Bg), m_zmake [.ref (bagD b), .val (.str p), .val ver, .val (.list (strL ps)), .val (.list (strL ns))] = .ok (.val (.tuple [.str "make", .str p, ver, .tuple rows, .tuple bs])) [some (.ref (bagD b')), none, none, none, none] ∧
      FaceR rows fr rg df bk ∧ bs.length ≤ rows.length ∧ ∀ d ∈ bs, Flat5 d := by
  obtain ⟨rows, fr, rg, df, bk, b1, e1, F⟩ := face_ex b p ps hp tp
  have lr := F.len
  obtain ⟨bs, b2, e2, l2, f2⟩ := body_ex b1 rows ns hn hl (fun r m => by
    rw [F.eq] at m
    have ot : ∀ r, OthR r → ∃ w rest, r = .tuple (.str w :: rest) := fun r o => by
      obtain ⟨w, x, rest, e, _⟩ := o.ex
      exact ⟨w, _, e⟩
    rcases List.mem_append.mp m with m | m
    · exact ot r (F.fr r m)
    rcases List.mem_append.mp m with m | m
    · obtain ⟨q, _, rfl⟩ := List.mem_map.mp m
      exact ⟨_, _, rfl⟩
    rcases List.mem_append.mp m with m | m
    · obtain ⟨q, _, rfl⟩ := List.mem_map.mp m
      exact ⟨_, _, rfl⟩
    · exact ot r (F.bk r m)) (by omega) tn
  refine ⟨rows, fr, rg, df, bk, bs, b2, ?_, F, l2, f2⟩
  unfold m_zmake
  rw [start _ _ _ _ (by rfl)]
  unfold F_zmake
  simp! [e1, e2]
/-! ### unlike names -/
def calm1 : Option Cell → Bool
  | none => true
  | some (.val _) => true
  | _ => false
theorem calm_soft {x : Option Cell} (h : calm1 x = true) : soft x = true := by
  cases x with
  | none => rfl
  | some c => cases c <;> first | rfl | cases h
theorem cut_take (xs : List Str) (k : Nat) : cutD (strL xs) none (some (k : Int)) = strL (xs.take k) := by
  unfold cutD
  rw [HT.sIx_none, HT.sIx_nat, List.drop_zero, Nat.sub_zero]
  unfold Lf.strL
  rw [← List.map_take, List.length_map]
  congr 1
  by_cases h : k ≤ xs.length
  · rw [Nat.min_eq_left h]
  · rw [Nat.min_eq_right (by omega), List.take_of_length_le (Nat.le_refl _), List.take_of_length_le (by omega)]

def lets : Str := "abcdefghijklmnopqrstuvwxyz"
theorem lets_at {i : Int} (h0 : 0 ≤ i) (h1 : i < 26) : itF (.str lets) (.int i) = some (.str ⟨#[(tl lets).getD i.toNat 0]⟩) := by
  rw [itF_s (by decide +kernel), atI_in (tl lets) h0 (by have : (tl lets).length = 26 := by decide +kernel
                                                         omega) 0]
  rfl
theorem lets_ok : ∀ c ∈ tl lets, 97 ≤ c ∧ c ≤ 122 := by decide +kernel
theorem let_ok {i : Int} (h0 : 0 ≤ i) (h1 : i < 26) : IsL ⟨#[(tl lets).getD i.toNat 0]⟩ := by
  have hl : (tl lets).length = 26 := by decide +kernel
  obtain ⟨a, c⟩ := lets_ok _ (getD_mem (l := tl lets) (i := i.toNat) (d := 0) (by omega))
  exact ⟨_, rfl, a, c⟩
theorem strs_of {P : Str → Prop} : ∀ {acc : List D}, (∀ y ∈ acc, ∃ c, y = .str c ∧ P c) → ∃ ws : List Str, acc = strL ws ∧ ∀ w ∈ ws, P w
  | [], _ => ⟨[], rfl, fun w m => by cases m⟩
  | y :: acc, h => by
    obtain ⟨ws, rfl, hw⟩ := strs_of (acc := acc) fun z m => h z (List.mem_cons_of_mem _ m)
    obtain ⟨c, rfl, hc⟩ := h y List.mem_cons_self
    exact ⟨c :: ws, rfl, fun w m => (List.mem_cons.mp m).elim (fun z => z ▸ hc) (hw w)⟩
/-- one name -/
theorem spell_ex (b : Bg) (m fo : D) (k : D) (s : Int) (h0 : 1 ≤ s) (h1 : s ≤ 8) (x6 : Option Cell) : ∃ (ws : List Str) (b' : Bg), C_znames_1 [some (.ref (bagD b)), some (.val m), some (.own fo), some (.val k), some (.val (.int s)), none, x6] = .ok (.list (strL ws)) [some (.ref (bagD b')), some (.val m), some (.own fo), some (.val k), some (.val (.int s)), none, x6] ∧ (∀ w ∈ ws, IsL w) ∧ 1 ≤ ws.length ∧ ws.length ≤ 8 := by
  have rI : I_znames_1 [some (.ref (bagD b)), some (.val m), some (.own fo), some (.val k), some (.val (.int s)), none, x6] = .ok (rngL 0 s.toNat) [some (.ref (bagD b)), some (.val m), some (.own fo), some (.val k), some (.val (.int s)), none, x6] := by
    unfold I_znames_1
    simp! []
    rw [rng1_e (by omega) (by omega)]
  have lr : (rngL 0 s.toNat).length = s.toNat := by simp [rngL]
  obtain ⟨acc, δ2, e, ln, ga, b2, e2⟩ := comp_inv (i := 5) (E := E_znames_1) (fun δ => ∃ b', δ = [some (.ref (bagD b')), some (.val m), some (.own fo), some (.val k), some (.val (.int s)), none, x6]) (fun y => ∃ c, y = .str c ∧ IsL c) rI rfl (by simp)
    (by rw [lr]; omega) ⟨_, rfl⟩ (fun δ ⟨b', h⟩ => by subst h; exact ⟨rfl, rfl⟩) (fun d _ δ ⟨b', h⟩ => by
      subst h
      have t := take_e b' 26 (by omega) (by omega)
      have w0 := takeV_nn (b := b') (m := 26) (by omega)
      have w1 := takeV_lt (b := b') (m := 26) (by omega)
      refine ⟨_, [some (.ref (bagD (takeB b' 26))), some (.val m), some (.own fo), some (.val k), some (.val (.int s)), some (.val d), x6], ?_, ⟨_, rfl, let_ok w0 w1⟩, takeB b' 26, rfl⟩
      have la := lets_at w0 w1
      unfold lets at la
      unfold E_znames_1
      simp! [t, la]
      rfl) rfl
  subst e2
  obtain ⟨ws, rfl, hw⟩ := strs_of ga
  have l2 : (strL ws).length = ws.length := List.length_map _
  exact ⟨ws, b2, e, hw, by omega, by omega⟩
theorem join_one {ws : List Str} (h : ∀ w ∈ ws, IsL w) (h1 : 1 ≤ ws.length) (h8 : ws.length ≤ 8) : ∃ w, joinM (.str "") [.list (strL ws)] = some (.str w) ∧ IsW 8 w := by
  obtain ⟨l, c⟩ := join_letters h
  have so : strsOf (strL ws) = some ws := strsOf_map ws
  have one : ∀ w ∈ ws, w.length = 1 := fun w m => by
    obtain ⟨c, e, _⟩ := h w m
    rw [len_tl, e]
    rfl
  have su : (ws.map (·.length)).sum = ws.length := by
    clear so l c h1 h8 h
    induction ws with
    | nil => rfl
    | cons w ws ih =>
      rw [List.map_cons, List.sum_cons, List.length_cons, ih fun x m => one x (List.mem_cons_of_mem _ m), one w List.mem_cons_self]
      omega
  refine ⟨Txt.join "" ws, joinM_l so (by rw [su]; show ws.length + ws.length * 0 ≤ 1000000; omega), ?_, ?_, c⟩
  · rw [len_tl, l]; exact h1
  · rw [len_tl, l]; exact h8
/-- those that are not there already -/
theorem uniq_e (xs : List Str) : ∀ (suf pre : List Str), xs = pre ++ suf → ∃ ys : List Str, (((placedD pre.length (strL suf)).filter fun d => match d with
    | .tuple [.int k, .str n] => decide (n ∉ xs.take k.toNat)
    | _ => false).map fun d => match d with
    | .tuple [_, y] => y
    | _ => .none) = strL ys ∧ ys.Nodup ∧ (∀ y ∈ ys, y ∈ suf ∧ y ∉ pre)
  | [], pre, _ => ⟨[], rfl, List.nodup_nil, fun y m => by cases m⟩
  | n :: suf, pre, e => by
    obtain ⟨ys, e1, e2, e3⟩ := uniq_e xs suf (pre ++ [n]) (by rw [e, List.append_assoc]; rfl)
    rw [List.length_append, List.length_singleton] at e1
    have pl : placedD pre.length (strL (n :: suf)) = .tuple [.int (pre.length : Nat), .str n] :: placedD (pre.length + 1) (strL suf) := rfl
    have tk : xs.take ((pre.length : Nat) : Int).toNat = pre := by
      rw [Int.toNat_natCast, e, List.take_left]
    rw [pl]
    by_cases h : n ∈ pre
    · refine ⟨ys, ?_, e2, fun y m => ?_⟩
      · rw [List.filter_cons_of_neg (by
          show ¬ decide (n ∉ xs.take ((pre.length : Nat) : Int).toNat) = true
          rw [tk]
          simpa using h)]
        exact e1
      · obtain ⟨a, c⟩ := e3 y m
        exact ⟨List.mem_cons_of_mem _ a, fun z => c (List.mem_append_left _ z)⟩
    · refine ⟨n :: ys, ?_, List.nodup_cons.mpr ⟨fun m => (e3 n m).2 (List.mem_append_right _ (List.mem_singleton.mpr rfl)), e2⟩, fun y m => ?_⟩
      · rw [List.filter_cons_of_pos (by
          show decide (n ∉ xs.take ((pre.length : Nat) : Int).toNat) = true
          rw [tk]
          exact decide_eq_true h), List.map_cons, e1]
        rfl
      · rcases List.mem_cons.mp m with rfl | m
        · exact ⟨List.mem_cons_self, h⟩
        · obtain ⟨a, c⟩ := e3 y m
          exact ⟨List.mem_cons_of_mem _ a, fun z => c (List.mem_append_left _ z)⟩
theorem dedup_c (b : Bg) (m : Int) (xs : List Str) (x3 x4 : Option Cell) (lx : xs.length ≤ 100) (s3 : calm1 x3 = true) : ∃ ys : List Str, C_znames_3 [some (.ref (bagD b)), some (.val (.int m)), some (.own (.list (strL xs))), x3, x4, none, none] = .ok (.list (strL ys)) [some (.ref (bagD b)), some (.val (.int m)), some (.val (.list (strL xs))), x3, x4, none, none] ∧ ys.Nodup ∧ ∀ y ∈ ys, y ∈ xs := by
  obtain ⟨ys, u1, u2, u3⟩ := uniq_e xs xs [] rfl
  refine ⟨ys, ?_, u2, fun y m => (u3 y m).1⟩
  have lp : (placedD 0 (strL xs)).length = xs.length := by
    rw [placed_len]
    exact List.length_map _
  have e := Fa.comp_mapB (vs := [3, 6]) (B := bTup 2 (bCons (bName 3) (bCons (bName 6) bNil))) (I := I_znames_3) (T := T_znames_3) (E := E_znames_3) (δ := [some (.ref (bagD b)), some (.val (.int m)), some (.own (.list (strL xs))), x3, x4, none, none]) (δ1 := [some (.ref (bagD b)), some (.val (.int m)), some (.val (.list (strL xs))), x3, x4, none, none])
      (ds := placedD 0 (strL xs)) (fun d => match d with
        | .tuple [.int k, .str n] => decide (n ∉ xs.take k.toNat)
        | _ => false) (fun d => match d with
        | .tuple [_, y] => y
        | _ => .none) (fun d => [some (.ref (bagD b)), some (.val (.int m)), some (.val (.list (strL xs))), some (.val (match d with
        | .tuple [k, _] => k
        | _ => .none)), x4, none, some (.val (match d with
        | .tuple [_, y] => y
        | _ => .none))]) (by
      unfold I_znames_3
      show (fCons _ _ _).bind _ = _
      simp! []
      rfl) (by
      cases x3 with
      | none => rfl
      | some c => cases c <;> first | rfl | cases s3) (by omega) rfl rfl (fun d md => by
      obtain ⟨k, hk⟩ := List.getElem?_of_mem md
      obtain ⟨y, hy, rfl⟩ := placed_get hk
      rw [Nat.zero_add]
      obtain ⟨n, _, rfl⟩ : ∃ n ∈ xs, PyData.str n = y := by
        have := List.mem_of_getElem? hy
        exact List.mem_map.mp this
      refine ⟨rfl, rfl, ?_, fun _ => ?_⟩
      · have sl : sliceF (.list (strL xs)) none (some ((k : Nat) : Int)) = some (.list (strL (xs.take k))) := by
          show some (PyData.list (cutD _ _ _)) = _
          rw [cut_take]
        show T_znames_3 [some (.ref (bagD b)), some (.val (.int m)), some (.val (.list (strL xs))), some (.val (.int ((k : Nat) : Int))), x4, none, some (.val (.str n))] = .ok (decide (n ∉ xs.take ((k : Nat) : Int).toNat)) [some (.ref (bagD b)), some (.val (.int m)), some (.val (.list (strL xs))), some (.val (.int ((k : Nat) : Int))), x4, none, some (.val (.str n))]
        rw [Int.toNat_natCast]
        have ni := Df.ni_list (w := n) (wo := xs.take k)
        generalize ((k : Nat) : Int) = kk at *
        generalize xs.take k = tk at *
        unfold T_znames_3
        simp! [sl, ni]
      · unfold E_znames_3
        simp! [])
  have u1 : ((placedD 0 (strL xs)).filter fun d => match d with
        | .tuple [.int k, .str n] => decide (n ∉ xs.take k.toNat)
        | _ => false).map (fun d => match d with
        | .tuple [_, y] => y
        | _ => .none) = strL ys := u1
  unfold C_znames_3
  rw [e, u1]
theorem names_I (b : Bg) (fo : D) (m : Int) (h0 : 1 ≤ m) (h1 : m ≤ 50) : I_znames_2 [some (.ref (bagD b)), some (.val (.int m)), some (.own fo), none, none, none, none] = .ok (rngL 0 m.toNat) [some (.ref (bagD b)), some (.val (.int m)), some (.own fo), none, none, none, none] := by
  unfold I_znames_2
  simp! []
  rw [rng1_e (by omega) (by omega)]
theorem names_ex (b : Bg) (m : Int) (h0 : 1 ≤ m) (h1 : m ≤ 50) : ∃ (ys : List Str) (b' : Bg), m_znames [.ref (bagD b), .val (.int m)] = .ok (.val (.list (strL ys))) [some (.ref (bagD b')), none] ∧ ys.Nodup ∧ (ys.length : Int) ≤ m ∧ ∀ y ∈ ys, IsW 8 y := by
  have t1 := take_e b 2 (by omega) (by omega)
  generalize takeV b 2 = v1 at *
  generalize takeB b 2 = b1 at *
  obtain ⟨z0, e0, l0, w0⟩ : ∃ z0 : List Str, repL (.list [.str "a"]) (.int (if v1 = 0 then 1 else 0)) = some (.list (strL z0)) ∧ z0.length ≤ 1 ∧ ∀ w ∈ z0, IsW 8 w := by
    by_cases h : v1 = 0
    · rw [if_pos h]
      exact ⟨["a"], rfl, by decide, fun w m => by rw [List.mem_singleton.mp m]; exact ⟨by decide +kernel, by decide +kernel, by decide +kernel⟩⟩
    · rw [if_neg h]
      exact ⟨[], rfl, by decide, fun w m => by cases m⟩
  have lr : (rngL 0 m.toNat).length = m.toNat := by simp [rngL]
  obtain ⟨δ', e1, b2, ws, x3, x4, hb, s3, s4, l2, w2⟩ := forL_at (B := bName 3) (F := Y_znames_2) (fun i δ => ∃ (b : Bg) (ws : List Str) (x3 x4 : Option Cell), δ = [some (.ref (bagD b)), some (.val (.int m)), some (.own (.list (strL ws))), x3, x4, none, none] ∧ calm1 x3 = true ∧ soft x4 = true ∧ ws.length ≤ 1 + i ∧ ∀ w ∈ ws, IsW 8 w)
    (rngL 0 m.toNat) [some (.ref (bagD b1)), some (.val (.int m)), some (.own (.list (strL z0))), none, none, none, none] ⟨b1, z0, none, none, rfl, rfl, rfl, l0, w0⟩ (fun i d hd δ ⟨b, ws, x3, x4, hb, s3, s4, lw, ww⟩ => by
      subst hb
      have hi : i < m.toNat := by
        have := (List.getElem?_eq_some_iff.mp hd).1
        rwa [lr] at this
      refine ⟨_, by simp! [calm_soft s3]; rfl, ?_⟩
      have t1 := take_e b 3 (by omega) (by omega)
      have a1 := takeV_nn (b := b) (m := 3) (by omega)
      have a2 := takeV_lt (b := b) (m := 3) (by omega)
      generalize takeV b 3 = v at *
      generalize takeB b 3 = b1 at *
      obtain ⟨q, pq, q1, q8⟩ : ∃ q : Int, L2.atI ([.int 1, .int 2, .int 8] : List D) v = some (.int q) ∧ 1 ≤ q ∧ q ≤ 8 := by
        have : v = 0 ∨ v = 1 ∨ v = 2 := by omega
        rcases this with rfl | rfl | rfl
        · exact ⟨1, rfl, by omega, by omega⟩
        · exact ⟨2, rfl, by omega, by omega⟩
        · exact ⟨8, rfl, by omega, by omega⟩
      have t2 := take_e b1 q (by omega) (by omega)
      have c1 := takeV_nn (b := b1) (m := q) (by omega)
      have c2 := takeV_lt (b := b1) (m := q) (by omega)
      generalize takeV b1 q = u at *
      generalize takeB b1 q = b2 at *
      obtain ⟨ls, b3, e3, lw3, l31, l38⟩ := spell_ex b2 (.int m) (.list (strL ws)) d (1 + u) (by omega) (by omega) none
      obtain ⟨w, ej, ww3⟩ := join_one lw3 l31 l38
      have ap := app2_e (d := .str w) (δ := [some (.ref (bagD b3)), some (.val (.int m)), some (.own (.list (strL ws))), some (.val d), some (.val (.int (1 + u))), none, none]) 2 (show (strL ws).length < 1000000 by unfold Lf.strL; rw [List.length_map]; omega)
      have sn : strL ws ++ [.str w] = strL (ws ++ [w]) := by
        unfold Lf.strL
        rw [List.map_append]
        rfl
      rw [sn] at ap
      refine ⟨[some (.ref (bagD b3)), some (.val (.int m)), some (.own (.list (strL (ws ++ [w])))), some (.val d), some (.val (.int (1 + u))), none, none], .inl ?_, b3, ws ++ [w], _, _, rfl, rfl, rfl, by rw [List.length_append, List.length_singleton]; omega, fun x m => (List.mem_append.mp m).elim (ww x) fun m => by rw [List.mem_singleton.mp m]; exact ww3⟩
      unfold Y_znames_2
      generalize C_znames_1 = C at *
      simp! [t1, pq, t2, s4, e3, ej, ap])
  subst hb
  rw [lr] at l2
  have hI := names_I b1 (.list (strL z0)) m h0 h1
  have hL : L_znames_2 [some (.ref (bagD b1)), some (.val (.int m)), some (.own (.list (strL z0))), none, none, none, none] = _ := for_g2 hI e1
  generalize hx : ws ++ (["ann", "bob", "cy", "dan", "eve"] : List Str) = xs
  have wx : ∀ w ∈ xs, IsW 8 w := fun w m => by
    rw [← hx] at m
    rcases List.mem_append.mp m with m | m
    · exact w2 w m
    · have : w = "ann" ∨ w = "bob" ∨ w = "cy" ∨ w = "dan" ∨ w = "eve" := by simpa using m
      rcases this with rfl | rfl | rfl | rfl | rfl <;> exact ⟨by decide +kernel, by decide +kernel, by decide +kernel⟩
  have lx : xs.length ≤ 100 := by
    rw [← hx, List.length_append]
    show ws.length + 5 ≤ 100
    omega
  have ad : addL (.list (strL ws)) (.list [.str "ann", .str "bob", .str "cy", .str "dan", .str "eve"]) = some (.list (strL xs)) := by
    rw [← hx]
    unfold Lf.strL
    rw [List.map_append]
    exact if_pos (by rw [List.length_map]; show ws.length + 5 ≤ 1000000; omega)
  have c3 := dedup_c b2 m xs x3 x4 lx s3
  obtain ⟨ys, u1, u2, u3⟩ := c3
  obtain ⟨n, hn⟩ : ∃ n : Nat, m = (n : Int) := ⟨m.toNat, by omega⟩
  have cu : sliceF (.list (strL ys)) none (some m) = some (.list (strL (ys.take n))) := by
    show some (PyData.list (cutD _ _ _)) = _
    rw [hn, cut_take]
  refine ⟨ys.take n, b2, ?_, (List.take_sublist _ _).nodup u2, ?_, fun y my => wx y (u3 y (List.mem_of_mem_take my))⟩
  · unfold m_znames
    rw [start _ _ _ _ (by rfl)]
    unfold F_znames
    have q1 : eqF (.int v1) (.int 0) = some (.bool (decide (v1 = 0))) := eqF_i
    have i1 : intF [.bool (decide (v1 = 0))] = some (.int (if v1 = 0 then 1 else 0)) := by
      by_cases h : v1 = 0
      · rw [Kd.dt h, if_pos h]; rfl
      · rw [Kd.df h, if_neg h]; rfl
    generalize C_znames_3 = C3 at *
    generalize L_znames_2 = L2 at *
    simp! [t1, q1, i1, e0, hL, ad, u1, cu]
  · have := List.length_take_le n ys
    omega
/-! ### put in another order; one of some -/
theorem sIns_e {v : Nat} {Fi Fv : Fe D} {δ δ1 δ2 : DEnv} {ds : List D} {k : Int} {d : D} (h0 : isLst δ v = true) (hi : Fi δ = .ok (.int k) δ1) (hv : Fv δ1 = .ok d δ2) (hl : lendable δ2 v = some (.list ds)) (k0 : 0 ≤ k) (k1 : k ≤ 1000000) (hd : ds.length < 1000000) :
    sIns v Fi Fv δ = .next (putD v (.list (ds.take k.toNat ++ [d] ++ ds.drop k.toNat)) δ2) := by
  unfold sIns
  rw [if_pos h0, hi]
  show (Fv δ1).bindS _ = _
  rw [hv]
  show onList v δ2 _ = _
  unfold onList
  rw [hl]
  exact if_pos ⟨⟨k0, k1⟩, hd⟩
theorem turned_step (b : Bg) (X d : D) (ys : List D) (hl : ys.length ≤ 1000) : ∃ (zs : List D) (b' : Bg), Y_zturned_1 [some (.ref (bagD b)), some (.val X), some (.own (.list ys)), some (.val d)] = .next [some (.ref (bagD b')), some (.val X), some (.own (.list zs)), some (.val d)] ∧ zs.Perm (d :: ys) := by
  generalize hn : (ys.length : Int) + 1 = n
  have t := take_e b n (by omega) (by omega)
  have a1 := takeV_nn (b := b) (m := n) (by omega)
  have a2 := takeV_lt (b := b) (m := n) (by omega)
  have ln : lenF [.list ys] = some (.int (ys.length : Int)) := rfl
  generalize takeV b n = k at *
  generalize takeB b n = b1 at *
  refine ⟨ys.take k.toNat ++ [d] ++ ys.drop k.toNat, b1, ?_, ?_⟩
  · have e1 : (fR Df.m_ztake 0 0 toVal (apHead 0 (fCons (fBin addF (fOf (fCall lenF (lCons (pkVar 2) lNil))) (fOf (fC (.int 1)))) fNil))) [some (.ref (bagD b)), some (.val X), some (.own (.list ys)), some (.val d)] = .ok (.int k) [some (.ref (bagD b1)), some (.val X), some (.own (.list ys)), some (.val d)] := by
      generalize (ys.length : Int) = l at *
      simp! [ln, hn, t]
    have e2 : rdVar 3 [some (.ref (bagD b1)), some (.val X), some (.own (.list ys)), some (.val d)] = .ok d [some (.ref (bagD b1)), some (.val X), some (.own (.list ys)), some (.val d)] := rfl
    unfold Y_zturned_1
    rw [sIns_e rfl e1 e2 rfl a1 (by omega) (by omega)]
    rfl
  · refine List.Perm.trans (List.Perm.append_right _ List.perm_append_comm) ?_
    rw [List.append_assoc, List.take_append_drop]
    exact List.Perm.refl _
theorem turned_ex (b : Bg) (xs : List D) (hl : xs.length ≤ 1000) : ∃ (ys : List D) (b' : Bg), m_zturned [.ref (bagD b), .val (.list xs)] = .ok (.own (.list ys)) [some (.ref (bagD b')), none] ∧ ys.Perm xs := by
  have run : ∀ (r done : List D) (b : Bg) (ys : List D) (x3 : Option Cell), xs = done ++ r → ys.Perm done → soft x3 = true → ∃ (zs : List D) (b' : Bg) (x3' : Option Cell), sForL (bName 3) Y_zturned_1 r [some (.ref (bagD b)), some (.val (.list xs)), some (.own (.list ys)), x3] = .next [some (.ref (bagD b')), some (.val (.list xs)), some (.own (.list zs)), x3'] ∧ zs.Perm xs := by
    intro r
    induction r with
    | nil =>
      intro done b ys x3 e p _
      rw [List.append_nil] at e
      exact ⟨ys, b, x3, rfl, e ▸ p⟩
    | cons d r ih =>
      intro done b ys x3 e p s3
      have ly : ys.length ≤ 1000 := by
        have := congrArg List.length e
        rw [List.length_append] at this
        rw [p.length_eq]
        omega
      obtain ⟨zs, b1, st, pz⟩ := turned_step b (.list xs) d ys ly
      obtain ⟨us, b2, x3', st2, pu⟩ := ih (done ++ [d]) b1 zs (some (.val d)) (by rw [e, List.append_assoc]; rfl) (pz.trans ((List.Perm.cons d p).trans (List.perm_append_comm (l₁ := [d]) (l₂ := done)))) rfl
      refine ⟨us, b2, x3', ?_, pu⟩
      have bn : bName 3 d [some (.ref (bagD b)), some (.val (.list xs)), some (.own (.list ys)), x3] = some [some (.ref (bagD b)), some (.val (.list xs)), some (.own (.list ys)), some (.val d)] := by
        simp! [s3]
      rw [forL_cons, bn, for1_e, st, for2_n]
      exact st2
  obtain ⟨zs, b', x3', e, p⟩ := run xs [] b [] none rfl (List.Perm.refl _) rfl
  have hI : I_zturned_1 [some (.ref (bagD b)), some (.val (.list xs)), some (.own (.list [])), none] = .ok xs [some (.ref (bagD b)), some (.val (.list xs)), some (.own (.list [])), none] := by
    unfold I_zturned_1
    simp! []
  have hL : L_zturned_1 [some (.ref (bagD b)), some (.val (.list xs)), some (.own (.list [])), none] = _ := for_g2 hI e
  refine ⟨zs, b', ?_, p⟩
  unfold m_zturned
  rw [start _ _ _ _ (by rfl)]
  unfold F_zturned
  generalize L_zturned_1 = L at *
  simp! [hL]
theorem any_ex (b : Bg) (xs : List D) (h : xs ≠ []) (hl : xs.length ≤ 100000) : ∃ x ∈ xs, ∃ b', m_zany [.ref (bagD b), .val (.list xs)] = .ok (.val x) [some (.ref (bagD b')), none] := by
  have l0 : 0 < xs.length := List.length_pos_iff.mpr h
  generalize hn : (xs.length : Int) = n
  have t := take_e b n (by omega) (by omega)
  have a1 := takeV_nn (b := b) (m := n) (by omega)
  have a2 := takeV_lt (b := b) (m := n) (by omega)
  have ln : lenF [.list xs] = some (.int n) := by rw [← hn]; rfl
  obtain ⟨x, mx, px⟩ := pick xs a1 (by omega)
  refine ⟨x, mx, takeB b n, ?_⟩
  generalize takeV b n = k at *
  generalize takeB b n = b1 at *
  unfold m_zany
  rw [start _ _ _ _ (by rfl)]
  unfold F_zany
  simp! [ln, t, px]
theorem alike_e (d : D) (h : eqF d d = some (.bool true)) {s : Str} (hs : reprG [d] = some (.str s)) : m_zalike [.val d, .val d] = .ok (.val (.bool true)) [none, none] := by
  have q : eqF (.str s) (.str s) = some (.bool true) := by rw [eqF_s, Kd.dt rfl]
  unfold m_zalike
  rw [start _ _ _ _ (by rfl)]
  unfold F_zalike
  simp! [h, hs, q]
theorem isw_t {w : Str} (h : IsW 8 w) : TS w := T1.lit (by
  simp only [tinyB, List.all_eq_true, decide_eq_true_eq]
  intro c m
  have := h.2.2 c m
  omega) (by
  have := h.2.1
  omega)
theorem rgt_t {p : Str × Str × Int} (h : 1 ≤ p.2.2 ∧ p.2.2 ≤ 3 ∧ TS p.1 ∧ TS p.2.1) : T1 (rgtD p) 2500 := (T1.tup (TA.cons (T1.lit (s := "right") (by decide +kernel) (by decide)) (TA.cons h.2.2.1 (TA.cons h.2.2.2 (TA.cons (T1.int (by omega) (by omega)) TA.nil))))).mono (by decide)
theorem dfl_t {p : Str × Int} (h : numOk p.2) (t : TS p.1) : T1 (dflD p) 2500 := (T1.tup (TA.cons (T1.lit (s := "default") (by decide +kernel) (by decide)) (TA.cons t (TA.cons (T1.int (by omega) (by omega)) TA.nil)))).mono (by decide)
theorem rgt_dp (p : Str × Str × Int) : PyData.depth (rgtD p) ≤ 3 := by
  simp [rgtD, PyData.depth, PyData.depthAll]
theorem dfl_dp (p : Str × Int) : PyData.depth (dflD p) ≤ 3 := by
  simp [dflD, PyData.depth, PyData.depthAll]
theorem dp_all {k : Nat} : ∀ {ds : List D}, (∀ d ∈ ds, PyData.depth d ≤ k) → PyData.depthAll ds ≤ k
  | [], _ => by simp [PyData.depthAll]
  | d :: ds, h => by
    have h1 := h d List.mem_cons_self
    have h2 := dp_all (ds := ds) fun x m => h x (List.mem_cons_of_mem _ m)
    simp only [PyData.depthAll]
    omega
theorem mem_dp : ∀ {ds : List D} {d : D}, d ∈ ds → PyData.depth d ≤ PyData.depthAll ds
  | [], _, m => by cases m
  | x :: ds, d, m => by
    simp only [PyData.depthAll]
    rcases List.mem_cons.mp m with z | z
    · rw [z]
      omega
    · have := mem_dp z
      omega
theorem mem_t : ∀ {ds : List D} {d : D} {m : Nat}, TA ds m → d ∈ ds → T1 d m
  | [], _, _, _, m => by cases m
  | x :: ds, d, k, h, m => by
    have h1 := h.1
    have h2 := h.2
    simp only [tinyA, Bool.and_eq_true] at h1
    simp only [szTA] at h2
    rcases List.mem_cons.mp m with z | z
    · rw [z]
      exact ⟨h1.1, by omega⟩
    · exact mem_t ⟨h1.2, by omega⟩ z
theorem len_t : ∀ {ds : List D} {m : Nat}, TA ds m → 2 * ds.length ≤ m
  | [], _, _ => Nat.zero_le _
  | x :: ds, k, h => by
    have h1 := h.1
    have h2 := h.2
    simp only [tinyA, Bool.and_eq_true] at h1
    simp only [szTA] at h2
    have := len_t (ds := ds) (m := szTA ds) ⟨h1.2, Nat.le_refl _⟩
    rw [List.length_cons]
    omega
/-- a drawn make's whole text -/
theorem make_t {rows fr : List D} {rg : List (Str × Str × Int)} {df : List (Str × Int)} {bk bs : List D} {p : Str} {ver : D} (F : FaceR rows fr rg df bk) (l : bs.length ≤ rows.length) (f : ∀ d ∈ bs, Flat5 d) (tp : TS p) (tv : T1 ver 200) (dv : PyData.depth ver ≤ 2) :
    T1 (.tuple [.str "make", .str p, ver, .tuple rows, .tuple bs]) 150000 ∧ PyData.depth (.tuple [.str "make", .str p, ver, .tuple rows, .tuple bs]) ≤ 8 := by
  have all : ∀ r ∈ rows, T1 r 2500 ∧ PyData.depth r ≤ 3 := fun r m => by
    rw [F.eq] at m
    rcases List.mem_append.mp m with m | m
    · exact ⟨(F.fr r m).ti, (F.fr r m).dp⟩
    rcases List.mem_append.mp m with m | m
    · obtain ⟨q, mq, rfl⟩ := List.mem_map.mp m
      exact ⟨rgt_t (F.rb q mq), rgt_dp q⟩
    rcases List.mem_append.mp m with m | m
    · obtain ⟨q, mq, rfl⟩ := List.mem_map.mp m
      exact ⟨dfl_t (F.db q mq) (F.dt q mq), dfl_dp q⟩
    · exact ⟨(F.bk r m).ti, (F.bk r m).dp⟩
  have t1 := TA.all (fun r m => (all r m).1)
  have t2 := TA.all (fun d m => (f d m).ti)
  have lr := F.len
  refine ⟨(T1.tup (TA.cons (T1.lit (s := "make") (by decide +kernel) (by decide)) (TA.cons tp (TA.cons tv (TA.cons (T1.tup t1) (TA.cons (T1.tup t2) TA.nil)))))).mono (by omega), ?_⟩
  have d1 := dp_all (fun r m => (all r m).2)
  have d2 := dp_all (fun d m => (f d m).dp)
  simp only [PyData.depth, PyData.depthAll]
  omega
end Dl.Fc

set_option Elab.async false
set_option linter.all false
set_option maxRecDepth 100000
/-! Dl101: [E for B in v if T], v a slot: a list of one's own, or a lent one, is walked where it stands. -/
namespace Dl
open PySem PySem.Spec PyProof.Rows L2
variable [Reg] [TabC]
section
variable {X : Cx} {W : WX} {Mi : Msk} {σ : St} {H H1 : Hp} {δ δ1 : DEnv} {pos : Pos} {e : Expr}
def lstC : Option (Option Cell) → Option (List D)
  | some (some (.own (.list ds))) => some ds
  | some (some (.ref (.list ds))) => some ds
  | _ => none
def compV (v : Nat) (vs : List Nat) (B : Bd) (T : Fe Bool) (E : Fe D) : Nat → Nat → List D → Fe (List D)
  | 0, _, _, _ => .bad
  | n + 1, i, acc, δ => match lstC δ[v]? with
    | none => .bad
    | some ds => match ds[i]? with
      | none => .ok acc δ
      | some d => match B d δ with
        | none => .bad
        | some δ1 => match T δ1 with
          | .ok true δ2 => (match E δ2 with
            | .ok y δ3 => compV v vs B T E n (i + 1) (acc ++ [y]) (wipeE δ3 vs)
            | _ => .bad)
          | .ok false δ2 => compV v vs B T E n (i + 1) acc (wipeE δ2 vs)
          | _ => .bad
def endC (δ0 : DEnv) (vs : List Nat) : R (List D) → R D
  | .ok acc δ2 => if δ2.length = δ0.length then .ok (.list acc) (back δ0 vs δ2) else .bad
  | _ => .bad
def fCompV (v : Nat) (vs : List Nat) (B : Bd) (T : Fe Bool) (E : Fe D) : Fe D := fun δ => match lstC δ[v]? with
  | none => fComp vs (iAny (rdVar v)) B T E δ
  | some _ => if calmAt δ vs = true ∧ v ∉ vs then endC δ vs (compV v vs B T E 1000000 0 [] (wipeE δ vs)) else .bad
theorem lstC_some {v : Nat} {ds : List D} (h : lstC δ[v]? = some ds) : δ[v]? = some (some (.own (.list ds))) ∨ δ[v]? = some (some (.ref (.list ds))) := by
  unfold lstC at h
  split at h
  · rename_i e
    cases h
    exact .inl e
  · rename_i e
    cases h
    exact .inr e
  · cases h
theorem cell_lst {K : PySem.W.Frag} {v : Nat} {a : Addr} {ds : List D} (R : Rep K Mi σ H δ) (sv : σ[v]? = some (some (.ref a))) (h : lstC δ[v]? = some ds) : ∃ xs, H a = some (.lst xs) ∧ DatAll K (msk Mi σ δ) H ds xs := by
  rcases lstC_some h with e | e
  · obtain ⟨u, eu, b, rfl, nb, xs, ex, rx⟩ := R.cell v _ e
    rw [sv] at eu
    cases eu
    exact ⟨xs, ex, rx⟩
  · obtain ⟨u, eu, b, rfl, nb, xs, ex, rx⟩ := R.cell v _ e
    rw [sv] at eu
    cases eu
    exact ⟨xs, ex, rx⟩
theorem compV_rd {v : Nat} {a : Addr} {vs sl : List Nat} {B : Bd} {T : Fe Bool} {E : Fe D} {Q : VK} {δ1 : DEnv} (hs : ∀ j ∈ sl, j ∈ vs) (R1 : Rep X.K Mi σ H1 δ1) (sv : σ[v]? = some (some (.ref a))) (hv : v ∉ vs) (hcalm : calmAt δ1 vs = true)
    (r : RunN X W Mi σ H1 δ1 (endC δ1 vs (compV v vs B T E 1000000 0 [] (wipeE δ1 vs))) Q) : ∀ D0, H1 D0 = none → ∃ W : Nat → Nat → Hp → Prop, (∃ m, W 0 m (upd H1 D0 (.lst []))) ∧ ∀ i m H, W i m H →
  ((Itl X.K a).stop i H ∧ Q (.ref D0) H) ∨ ((Itl X.K a).go i H ∧ ∃ Nx : Hp → Prop, (∀ H', Nx H' → ∃ m', m' < m ∧ W (i + 1) m' H') ∧ ∀ x H', (Itl X.K a).yld i H x H' → tB1 X sl B x (wipe σ vs) H' fun σ2 H2 => wipe σ2 vs = wipe σ vs ∧ tG X noW pB T σ2 H2 fun b H3 =>
    if b = true then tG X noW (pD X) E σ2 H3 fun y H4 => ∃ acc, H4 D0 = some (.lst acc) ∧ acc.length < sizeLine ∧ Nx (upd H4 D0 (.lst (acc ++ [y]))) else Nx H3) := by
  intro D0 nD
  have outE : ∀ j, j ∉ vs → (wipe σ vs)[j]? = σ[j]? := fun j hj => wipe_out hj
  have noRef : ∀ j ∈ vs, isRef δ1[j]? = false := fun j hj => calmAt_un2 hcalm hj
  have hplus : ∀ a, plus Mi D0 a → msk Mi σ δ1 a ∨ H1 a = none := fun a z => z.elim (fun z => .inl (.inl z)) fun z => .inr (by rw [z]; exact nD)
  have svw : (wipe σ vs)[v]? = some (some (.ref a)) := by rw [outE v hv, sv]
  have g0 : Go X.K Mi (plus Mi D0) σ H1 δ1 (wipe σ vs) (upd H1 D0 (.lst [])) (wipeE δ1 vs) := Go.wiped R1 (Go.new R1 nD) (by rw [wipe_length]; exact Nat.le_refl _) outE noRef
  refine ⟨fun i m H => i + m = 1000000 ∧ ∃ δ acc xs, Go X.K Mi (plus Mi D0) σ H1 δ1 (wipe σ vs) H δ ∧ H D0 = some (.lst xs) ∧ DatAll X.K (msk (plus Mi D0) (wipe σ vs) δ) H acc xs ∧ acc.length ≤ i ∧
    RunN X W Mi σ H1 δ1 (endC δ1 vs (compV v vs B T E m i acc δ)) Q, ⟨1000000, rfl, wipeE δ1 vs, [], [], g0, upd_same, .nil, Nat.le_refl _, r⟩, ?_⟩
  rintro i m H ⟨him, δ, acc, xs, g, hD, hA, hacc, r⟩
  cases m with
  | zero => exact r.elim
  | succ n =>
    unfold compV at r
    cases hlc : lstC δ[v]? with
    | none =>
      rw [hlc] at r
      exact r.elim
    | some ds =>
      rw [hlc] at r
      dsimp only at r
      obtain ⟨ys, ey, ry⟩ := cell_lst g.rep svw hlc
      have sq : SqL X.K H a ys := .inl (.inl ey)
      cases ei : ds[i]? with
      | some d =>
        rw [ei] at r
        dsimp only at r
        obtain ⟨y, eyi, dy⟩ := ry.get ei
        refine .inr ⟨⟨ys, y, sq, eyi⟩, fun H' => ∃ δ acc xs, Go X.K Mi (plus Mi D0) σ H1 δ1 (wipe σ vs) H' δ ∧ H' D0 = some (.lst xs) ∧ DatAll X.K (msk (plus Mi D0) (wipe σ vs) δ) H' acc xs ∧ acc.length ≤ i + 1 ∧
          RunN X W Mi σ H1 δ1 (endC δ1 vs (compV v vs B T E n (i + 1) acc δ)) Q, fun H' h => ⟨n, Nat.lt_succ_self n, by omega, h⟩, fun x H2 hy => ?_⟩
        obtain ⟨rfl, f⟩ := hy
        have ex2 := f ys sq
        rw [eyi] at ex2
        cases ex2
        have gA := Go.refl g.rep
        cases eb : B d δ with
        | none =>
          rw [eb] at r
          exact r.elim
        | some δa =>
          rw [eb] at r
          dsimp only at r
          refine ⟨plus Mi D0, _, δ, gA.rep, dy, δa, eb, fun σ2 g2 far => ⟨wipe_far hs far, plus Mi D0, δa, g2.rep, ?_⟩⟩
          have w2 : wipe σ2 vs = wipe σ vs := wipe_far hs far
          have out2 : ∀ j, j ∉ vs → (wipe σ vs)[j]? = σ2[j]? := fun j hj => by rw [← w2, wipe_out hj]
          have len2 : σ2.length ≤ (wipe σ vs).length := by rw [← w2, wipe_length]; exact Nat.le_refl _
          cases et : T δa with
          | err z δb =>
            rw [et] at r
            exact r.elim
          | bad =>
            rw [et] at r
            exact r.elim
          | ok k δb =>
            rw [et] at r
            refine fun b H3 g3 pb => ?_
            have eb3 : b = k := pb
            subst eb3
            cases b with
            | false =>
              refine iteF ?_
              have gg : Go X.K Mi (plus Mi D0) σ H1 δ1 σ2 H3 δb := (g.trans gA).trans (g2.trans g3)
              have stepG : Go X.K (plus Mi D0) (plus Mi D0) (wipe σ vs) H2 δ σ2 H3 δb := gA.trans (g2.trans g3)
              have mv3 := stepG.mv g.rep
              have gw := Go.wiped R1 gg len2 out2 noRef
              have shr : Mv (msk (plus Mi D0) σ2 δb) H3 (msk (plus Mi D0) (wipe σ vs) (wipeE δb vs)) H3 := Mv.shrink fun a z => z.elim .inl fun ⟨j, d, e, s⟩ => by
                obtain ⟨h1, h2⟩ := wipeE_get e
                rw [out2 j h1] at s
                exact .inr ⟨j, d, h2, s⟩
              refine ⟨wipeE δb vs, acc, xs, gw, ?_, (hA.mv mv3).mv shr, by omega, r⟩
              refine stepG.stab D0 _ (fun z => ?_) (fun z => ?_) hD nt_lst
              · exact g.rep.own_out z (.inr rfl)
              · exact R1.dom D0 (R1.lent_in (Lent.of g z)) nD
            | true =>
              refine iteT ⟨plus Mi D0, δb, g3.rep, ?_⟩
              dsimp only at r
              cases ee : E δb with
              | err z δc =>
                rw [ee] at r
                exact r.elim
              | bad =>
                rw [ee] at r
                exact r.elim
              | ok y2 δc =>
                rw [ee] at r
                refine fun u H4 g4 pu => ?_
                have gg : Go X.K Mi (plus Mi D0) σ H1 δ1 σ2 H4 δc := ((g.trans gA).trans (g2.trans g3)).trans g4
                have stepG : Go X.K (plus Mi D0) (plus Mi D0) (wipe σ vs) H2 δ σ2 H4 δc := (gA.trans (g2.trans g3)).trans g4
                have mv3 := stepG.mv g.rep
                have shr : Mv (msk (plus Mi D0) σ2 δc) H4 (msk (plus Mi D0) (wipe σ vs) (wipeE δc vs)) H4 := Mv.shrink fun a z => z.elim .inl fun ⟨j, d, e, s⟩ => by
                  obtain ⟨h1, h2⟩ := wipeE_get e
                  rw [out2 j h1] at s
                  exact .inr ⟨j, d, h2, s⟩
                have hD4 : H4 D0 = some (.lst xs) := by
                  refine stepG.stab D0 _ (fun z => ?_) (fun z => ?_) hD nt_lst
                  · exact g.rep.own_out z (.inr rfl)
                  · exact R1.dom D0 (R1.lent_in (Lent.of g z)) nD
                have gw := Go.atNew (o := .lst (xs ++ [u])) R1 nD ⟨_, hD4, .inl ⟨_, rfl⟩⟩ (Go.wiped R1 gg len2 out2 noRef)
                have pu' : Dat X.K (msk (plus Mi D0) σ2 δc) H4 y2 u := pu
                refine ⟨xs, hD4, ?_, wipeE δc vs, acc ++ [y2], xs ++ [u], gw, upd_same, ?_, ?_, r⟩
                · have : xs.length ≤ i := by rw [hA.length]; exact hacc
                  exact Nat.lt_of_lt_of_le (show xs.length < 1000000 by omega) (by decide)
                · exact (((hA.mv mv3).append (.cons pu' .nil)).mv shr).mv (Mv.updM (.inl (.inr rfl)))
                · rw [List.length_append, List.length_singleton]
                  omega
      | none =>
        rw [ei] at r
        refine .inl ⟨⟨ys, sq, by rw [ry.length]; exact List.getElem?_eq_none_iff.mp ei⟩, ?_⟩
        unfold endC at r
        dsimp only at r
        split at r
        · rename_i hl
          have gb := Go.backed R1 g hplus hcalm outE hl
          have shr : Mv (msk (plus Mi D0) (wipe σ vs) δ) H (msk (plus Mi D0) σ (back δ1 vs δ)) H := Mv.shrink fun a z => z.elim .inl fun ⟨j, d, e, s⟩ => by
            rcases back_get e with ⟨h1, h2⟩ | ⟨h1, h2⟩ | ⟨h1, h2⟩
            · have := calmAt_un hcalm h1 h2
              cases this
            · rw [← outE j h1] at s
              exact .inr ⟨j, d, h2, s⟩
            · have h3 := (List.getElem?_eq_some_iff.mp h1).1
              have h4 := List.getElem?_eq_none_iff.mp h2
              omega
          exact r D0 H gb nD ⟨xs, hD, hA.mv shr⟩
        · exact r.elim
theorem tLc_any {v : Nat} {g : TG} {tt : TT} {te : TE} {vs : List Nat} {Q : VK} (q : tLc (tG X W (pI X) (iAny (rdVar v))) g tt te vs σ H Q) : tLc (tSeqI X.K (tVar v)) g tt te vs σ H Q := by
  have f := any_rd (Fv := rdVar v) q
  obtain h := var_rd (Q := fun x H1 => (∃ a xs, x = .ref a ∧ SqL X.K H1 a xs ∧ _) ∨ (∃ a xs, x = .ref a ∧ SqT X.K H1 a xs ∧ _) ∨ ∃ z, x = .str z ∧ _) f
  exact h
theorem do_compV {v : Nat} {elt tg : Expr} {x : Str} {p : Pos} {ifs : List Expr} {scope : Scope} {own : List (Str × Nat)} {sl : List Nat} {B : Bd} {T : Fe Bool} {E : Fe D} (hc : X.calm = true) (hN : X.N.Nodup) (hx : X.N[v]? = some x) (hv : Vis X.env.scope x) (ok : BlkOk X.N X.env.scope scope own) (hs : ∀ j ∈ sl, j ∈ own.map (·.2))
    (hg : ∀ (s : Shared) (H : Hp) (C : Addr) (cl : List (Str × Addr)) (fp : List Addr), DG (X.blk s H scope (compEnvC scope cl C X.env) fp) tg sl B) (ht : ∀ (s : Shared) (H : Hp) (C : Addr) (cl : List (Str × Addr)) (fp : List Addr), DTs (X.blk s H scope (compEnvC scope cl C X.env) fp) noW ifs T)
    (he : ∀ (s : Shared) (H : Hp) (C : Addr) (cl : List (Str × Addr)) (fp : List Addr), DE (X.blk s H scope (compEnvC scope cl C X.env) fp) noW elt E) (hf : ∀ y, foldedSetIterable (.Name x p) X.env y = pure y := by intro _; rfl) (hd : (x == ("__debug__" : Str)) = false := by decide +kernel) (hcd : (x == ("__classdict__" : Str)) = false := by decide +kernel) :
    DO X W (.ListComp elt [⟨tg, .Name x p, ifs, 0⟩] scope pos) (fCompV v (own.map (·.2)) B T E) :=
  PE.imp (pe_lc (g := tB1 X sl B) (tt := tG X noW pB T) (te := tG X noW (pD X) E) hc hN (pi_seq (pe_var hx hv hd hcd)) ok hg ht he hf) fun σ H Q q => by
    obtain ⟨Mi, δ, R, r⟩ := q
    unfold fCompV at r
    split at r
    · exact tLc_any (comp_rd hs ⟨Mi, δ, R, r⟩)
    · rename_i ds hl
      split at r
      · rename_i hcv
        have ex : ∃ u, σ[v]? = some (some u) ∧ ∃ a, u = .ref a := by
          rcases lstC_some hl with e | e
          · obtain ⟨u, eu, b, rfl, _⟩ := R.cell v _ e
            exact ⟨_, eu, b, rfl⟩
          · obtain ⟨u, eu, b, rfl, _⟩ := R.cell v _ e
            exact ⟨_, eu, b, rfl⟩
        obtain ⟨u, eu, a, rfl⟩ := ex
        obtain ⟨ys, ey, ry⟩ := cell_lst R eu hl
        exact ⟨.ref a, eu, .inl ⟨a, ys, rfl, .inl (.inl ey), compV_rd hs R eu hcv.2 hcv.1 r⟩⟩
      · exact r.elim
end
/-! ### evaluation -/
theorem compV_run {v : Nat} {vs : List Nat} {B : Bd} {T : Fe Bool} {E : Fe D} {δw : DEnv} {ds : List D} (t : D → Bool) (f : D → D) (bd : D → DEnv) (hl : lstC δw[v]? = some ds)
    (h : ∀ d ∈ ds, B d δw = some (bd d) ∧ wipeE (bd d) vs = δw ∧ T (bd d) = .ok (t d) (bd d) ∧ (t d = true → E (bd d) = .ok (f d) (bd d))) :
    ∀ (n i : Nat) (acc : List D), ds.length < i + n → i ≤ ds.length → compV v vs B T E n i acc δw = .ok (acc ++ ((ds.drop i).filter t).map f) δw
  | 0, i, acc, h1, h2 => by omega
  | n + 1, i, acc, h1, h2 => by
    unfold compV
    rw [hl]
    dsimp only
    cases ei : ds[i]? with
    | none =>
      have : ds.length ≤ i := List.getElem?_eq_none_iff.mp ei
      rw [List.drop_eq_nil_iff.mpr this]
      simp
    | some d =>
      obtain ⟨hi, e2⟩ := List.getElem?_eq_some_iff.mp ei
      obtain ⟨a1, a2, a3, a4⟩ := h d (e2 ▸ List.getElem_mem hi)
      rw [List.drop_eq_getElem_cons hi, e2]
      dsimp only
      rw [a1]
      dsimp only
      rw [a3]
      cases ht : t d with
      | true =>
        rw [List.filter_cons_of_pos ht]
        dsimp only
        rw [a4 ht]
        dsimp only
        rw [a2, compV_run t f bd hl h n (i + 1) _ (by omega) (by omega)]
        simp
      | false =>
        rw [List.filter_cons_of_neg (by rw [ht]; exact Bool.false_ne_true)]
        dsimp only
        rw [a2, compV_run t f bd hl h n (i + 1) _ (by omega) (by omega)]
theorem compV_map {v i : Nat} {T : Fe Bool} {E : Fe D} {δ : DEnv} {ds : List D} (t : D → Bool) (f : D → D) (hl : lstC δ[v]? = some ds) (hi : i < δ.length) (hc : calmAt δ [i] = true) (ne : v ≠ i) (hn : ds.length < 1000000)
    (h : ∀ d ∈ ds, T (δ.set i (some (.val d))) = .ok (t d) (δ.set i (some (.val d))) ∧ (t d = true → E (δ.set i (some (.val d))) = .ok (f d) (δ.set i (some (.val d))))) :
    fCompV v [i] (bName i) T E δ = .ok (.list ((ds.filter t).map f)) δ := by
  have s2 : ∀ (x : Option Cell) (y : Option Cell), (δ.set i x).set i y = δ.set i y := fun x y => by simp
  have fr : free (δ.set i none) i = true := by
    unfold free
    simp [hi, isRef]
  have hl2 : lstC (δ.set i none)[v]? = some ds := by rw [List.getElem?_set_ne (fun z => ne z.symm)]; exact hl
  have run := compV_run (v := v) (vs := [i]) (B := bName i) (T := T) (E := E) (δw := δ.set i none) (ds := ds) t f (fun d => δ.set i (some (.val d))) hl2 (fun d md => by
    obtain ⟨h1, h2⟩ := h d md
    refine ⟨?_, s2 _ _, h1, h2⟩
    have e : bName i d (δ.set i none) = some ((δ.set i none).set i (some (.val d))) := if_pos fr
    rw [e, s2]) 1000000 0 [] (by omega) (Nat.zero_le _)
  unfold fCompV
  rw [hl]
  dsimp only
  rw [if_pos ⟨hc, by simp [ne]⟩]
  show endC δ [i] (compV v [i] (bName i) T E 1000000 0 [] (δ.set i none)) = _
  rw [run]
  have sl : δ[i]? = some (slot δ i) := by
    rw [slot_eq, List.getElem?_eq_getElem hi]
    rfl
  show (if (δ.set i none).length = δ.length then R.ok (PyData.list ([] ++ ((ds.drop 0).filter t).map f)) (back δ [i] (δ.set i none)) else .bad) = _
  rw [if_pos (by simp), List.nil_append, List.drop_zero]
  unfold back
  rw [sl]
  show R.ok _ ((δ.set i none).set i (slot δ i)) = _
  rw [s2]
  congr 1
  refine List.ext_getElem? fun j => ?_
  by_cases hj : i = j
  · subst hj
    rw [List.getElem?_set_self hi, sl]
  · rw [List.getElem?_set_ne hj]
end Dl

set_option Elab.async false
set_option linter.all false
set_option maxRecDepth 100000
set_option maxHeartbeats 0
namespace k61
open PySem PySem.Spec PyProof.Rows L2 Dl
/-! deepest: 0 name 1 layers 2 told 3 depth 4 setting 5 number -/
def I_deepest_1 : Fe (List D) := (iAny (rdVar 1))
def E_deepest_1 : Fe D := (fTup (fCons (rdVar 3) (fCons (rdVar 5) fNil)))
def T_deepest_1 : Fe Bool := (fB (fBin eqF (pkVar 4) (pkVar 0)))
def C_deepest_1 : Fe D := (fComp [3, 4, 5] I_deepest_1 (bTup 3 (bCons (bName 3) (bCons (bName 4) (bCons (bName 5) bNil)))) T_deepest_1 E_deepest_1)
def F_deepest : Fs :=
  (sSeq (sSetO 2 C_deepest_1)
  (sSeq (sSortHd 2)
  (sSeq (sIf (fB (fBin eqE (pkVar 2) (fOf (fLst fNil)))) (sRet (fC .none)) sNext)
  (sRet (fBin itF (fOf (fBin itF (pkVar 2) (fOf (fUn negF (fOf (fC (.int 1))))))) (fOf (fC (.int 1))))))))
def m_deepest : Mir := mir 2 6 F_deepest
/-! brought: 0 name 1 makes 2 found 3 word 4 part 5 version 6 face 7 body 8 kind 9 things -/
def I_brought_1 : Fe (List D) := (iAny (rdVar 6))
def Y_brought_1 : Fs := (sIf (fAnd (fB (fBin eqF (pkVar 8) (fOf (fC (.str "default"))))) (fB (fBin eqF (fOf (fBin itF (pkVar 9) (fOf (fC (.int 0))))) (pkVar 0)))) (sItemD 2 (rdVar 4) (fBin itF (pkVar 9) (fOf (fC (.int 1))))) sNext)
def L_brought_1 : Fs := (sFor I_brought_1 (bStar 8 9) Y_brought_1)
def I_brought_2 : Fe (List D) := (iAny (rdVar 1))
def Y_brought_2 : Fs := L_brought_1
def L_brought_2 : Fs := (sFor I_brought_2 (bTup 5 (bCons (bName 3) (bCons (bName 4) (bCons (bName 5) (bCons (bName 6) (bCons (bName 7) bNil)))))) Y_brought_2)
def F_brought : Fs :=
  (sSeq (sSetO 2 (fDct fPNil))
  (sSeq L_brought_2
  (sSeq (sIf (fB (fBin eqK (pkVar 2) (fOf (fDct fPNil)))) (sRet (fC .none)) sNext)
  (sRet (fDIx (pkVar 2) (fCall minKD (lCons (pkVar 2) lNil)))))))
def m_brought : Mir := mir 2 10 F_brought
/-! zbag: 0 zscript 1 zcell -/
def I_zbag_1 : Fe (List D) := (iAny (fSlice (pkVar 0) ptNone (ptSome (fC (.int 63)))))
def E_zbag_1 : Fe D := (fCall absF (lCons (pkVar 1) lNil))
def C_zbag_1 : Fe D := (fComp [1] I_zbag_1 (bName 1) fYes E_zbag_1)
def F_zbag : Fs :=
  (sRetO (fLst (fCons (fC (.int 0)) (fCons (fC (.int 1234567891)) (fCons (fC (.int 0)) (fCons C_zbag_1 fNil))))))
def m_zbag : Mir := mir 1 2 F_zbag
/-! ztake: 0 zbag_here 1 zmany 2 zcell 3 zvalue 4 zfirst 5 zsecond -/
def F_ztake : Fs :=
  (sSeq (sIf (fB (fBin eqF (fOf (fBin itF (pkVar 0) (fOf (fC (.int 0))))) (fOf (fC (.int 0))))) (sSeq (sSet 2 (fC (.int 0)))
  (sSeq (sIf (fB (fBin ltF (fOf (fBin itF (pkVar 0) (fOf (fC (.int 2))))) (fOf (fCall lenF (lCons (fOf (fBin itF (pkVar 0) (fOf (fC (.int 3))))) lNil))))) (sSet 2 (fBin itF (fOf (fBin itF (pkVar 0) (fOf (fC (.int 3))))) (fOf (fBin itF (pkVar 0) (fOf (fC (.int 2))))))) sNext)
  (sSeq (sAugI 0 (fun a b => a + b) (fC (.int 2)) (fC (.int 1)))
  (sSeq (sIf (fB (fBin geF (pkVar 2) (fOf (fC (.int 1000000000000000000))))) (sItem 0 (fC (.int 0)) (rdVar 2)) sNext)
  (sItem 0 (fC (.int 1)) (fBin modF (fOf (fBin addF (fOf (fBin addF (fOf (fBin mulF (fOf (fBin itF (pkVar 0) (fOf (fC (.int 1))))) (fOf (fC (.int 48271))))) (fOf (fBin modF (pkVar 2) (fOf (fC (.int 2147483647))))))) (fOf (fBin mulF (fOf (fC (.int 7919))) (fOf (fBin itF (pkVar 0) (fOf (fC (.int 2))))))))) (fOf (fC (.int 2147483647))))))))) sNext)
  (sSeq (sIf (fB (fBin gtF (fOf (fBin itF (pkVar 0) (fOf (fC (.int 0))))) (fOf (fC (.int 0))))) (sSeq (sSet 3 (fBin modF (fOf (fBin itF (pkVar 0) (fOf (fC (.int 0))))) (pkVar 1)))
  (sSeq (sItem 0 (fC (.int 0)) (fBin divF (fOf (fBin itF (pkVar 0) (fOf (fC (.int 0))))) (pkVar 1)))
  (sRetV 3))) sNext)
  (sSeq (sSet 4 (fBin modF (fOf (fBin mulF (fOf (fBin addF (fOf (fBin itF (pkVar 0) (fOf (fC (.int 1))))) (fOf (fC (.int 1))))) (fOf (fC (.int 39373))))) (fOf (fC (.int 1000000007)))))
  (sSeq (sSet 5 (fBin modF (fOf (fBin mulF (fOf (fBin modF (fOf (fBin mulF (pkVar 4) (pkVar 4))) (fOf (fC (.int 998244353))))) (fOf (fC (.int 30011))))) (fOf (fC (.int 998244353)))))
  (sSeq (sIf (fB (fBin gtF (pkVar 1) (fOf (fC (.int 1000000))))) (sRet (fBin modF (fOf (fBin addF (fOf (fBin mulF (pkVar 5) (fOf (fC (.int 1000000007))))) (pkVar 4))) (pkVar 1))) sNext)
  (sRet (fBin modF (fOf (fBin divF (pkVar 5) (fOf (fC (.int 7))))) (pkVar 1))))))))
def m_ztake : Mir := mir 2 6 F_ztake
/-! zalike: 0 zfound 1 zdue -/
def F_zalike : Fs :=
  (sRet (fAndV (fBin eqF (pkVar 0) (pkVar 1)) (fBin eqF (fOf (fCall reprG (lCons (pkVar 0) lNil))) (fOf (fCall reprG (lCons (pkVar 1) lNil))))))
def m_zalike : Mir := mir 2 2 F_zalike
/-! zsetting: 0 zname 1 zlayers_here 2 zmakes 3 ztold 4 zfound 5 zmake_here 6 zlayer 7 zrow -/
def I_zsetting_1 : Fe (List D) := (iAny (rdVar 1))
def E_zsetting_1 : Fe D := (fTup (fCons (fBin itF (pkVar 6) (fOf (fC (.int 0)))) (fCons (fBin itF (pkVar 6) (fOf (fC (.int 2)))) fNil)))
def T_zsetting_1 : Fe Bool := (fB (fBin eqF (fOf (fBin itF (pkVar 6) (fOf (fC (.int 1))))) (pkVar 0)))
def C_zsetting_1 : Fe D := (fComp [6] I_zsetting_1 (bName 6) T_zsetting_1 E_zsetting_1)
def I_zsetting_2 : Fe (List D) := (iAny (fBin itF (pkVar 5) (fOf (fC (.int 3)))))
def E_zsetting_2 : Fe D := (fTup (fCons (fBin itF (pkVar 5) (fOf (fC (.int 1)))) (fCons (fBin itF (pkVar 7) (fOf (fC (.int 2)))) fNil)))
def T_zsetting_2 : Fe Bool := (fB (fBin eqF (fOf (fSlice (pkVar 7) ptNone (ptSome (fC (.int 2))))) (fOf (fTup (fCons (fC (.str "default")) (fCons (rdVar 0) fNil))))))
def C_zsetting_2 : Fe D := (fComp [7] I_zsetting_2 (bName 7) T_zsetting_2 E_zsetting_2)
def I_zsetting_3 : Fe (List D) := (iAny (rdVar 2))
def Y_zsetting_3 : Fs := (sSet 4 (fBin addF (pkVar 4) (fOf C_zsetting_2)))
def L_zsetting_3 : Fs := (sFor I_zsetting_3 (bName 5) Y_zsetting_3)
def F_zsetting : Fs :=
  (sSeq (sSetO 3 C_zsetting_1)
  (sSeq (sIf (fB (fBin neF (pkVar 3) (fOf (fLst fNil)))) (sRet (fBin itF (fOf (fCall maxL (lCons (pkVar 3) lNil))) (fOf (fC (.int 1))))) sNext)
  (sSeq (sSet 4 (fLst fNil))
  (sSeq L_zsetting_3
  (sSeq (sIf (fB (fBin eqF (pkVar 4) (fOf (fLst fNil)))) (sRet (fC .none)) sNext)
  (sRet (fBin itF (fOf (fCall minL (lCons (pkVar 4) lNil))) (fOf (fC (.int 1))))))))))
def m_zsetting : Mir := mir 3 8 F_zsetting
/-! setting_of: 0 name 1 layers 2 makes 3 told -/
def F_setting_of : Fs :=
  (sSeq (sSet 3 (fV m_deepest (fCons (rdVar 0) (fCons (rdVar 1) fNil))))
  (sSeq (sIf (fB (fBin isF (pkVar 3) (fOf (fC .none)))) (sRet (fV m_brought (fCons (rdVar 0) (fCons (rdVar 2) fNil)))) sNext)
  (sRetV 3)))
def m_setting_of : Mir := mir 3 4 F_setting_of
/-! znames: 0 zbag_here 1 zmany 2 zfound 3 zk 4 zsize 5 zj 6 zname -/
def I_znames_1 : Fe (List D) := (iRng1 (rdVar 4))
def E_znames_1 : Fe D := (fBin itF (fOf (fC (.str "abcdefghijklmnopqrstuvwxyz"))) (fOf (fR m_ztake 0 0 toVal (apHead 0 (fCons (fC (.int 26)) fNil)))))
def C_znames_1 : Fe D := (fComp [5] I_znames_1 (bName 5) fYes E_znames_1)
def I_znames_2 : Fe (List D) := (iRng1 (rdVar 1))
def Y_znames_2 : Fs := (sSeq (sSet 4 (fBin addF (fOf (fC (.int 1))) (fOf (fR m_ztake 0 0 toVal (apHead 0 (fCons (fBin itF (fOf (fLst (fCons (fC (.int 1)) (fCons (fC (.int 2)) (fCons (fC (.int 8)) fNil))))) (fOf (fR m_ztake 0 0 toVal (apHead 0 (fCons (fC (.int 3)) fNil))))) fNil))))))
  (sApp 2 (fMeth "str" joinM (fOf (fC (.str ""))) (lCons (fOf C_znames_1) lNil))))
def L_znames_2 : Fs := (sFor I_znames_2 (bName 3) Y_znames_2)
def I_znames_3 : Fe (List D) := (iEnumL (fCons (rdVar 2) fNil))
def E_znames_3 : Fe D := (rdVar 6)
def T_znames_3 : Fe Bool := (fB (fBin niF (pkVar 6) (fOf (fSlice (pkVar 2) ptNone (ptSome (rdVar 3))))))
def C_znames_3 : Fe D := (fComp [3, 6] I_znames_3 (bTup 2 (bCons (bName 3) (bCons (bName 6) bNil))) T_znames_3 E_znames_3)
def F_znames : Fs :=
  (sSeq (sSetO 2 (fBin repL (fOf (fLst (fCons (fC (.str "a")) fNil))) (fOf (fCall intF (lCons (fOf (fBin eqF (fOf (fR m_ztake 0 0 toVal (apHead 0 (fCons (fC (.int 2)) fNil)))) (fOf (fC (.int 0))))) lNil)))))
  (sSeq L_znames_2
  (sSeq (sSetO 2 (fBin addL (pkVar 2) (fOf (fLst (fCons (fC (.str "ann")) (fCons (fC (.str "bob")) (fCons (fC (.str "cy")) (fCons (fC (.str "dan")) (fCons (fC (.str "eve")) fNil)))))))))
  (sRet (fSlice (fOf C_znames_3) ptNone (ptSome (rdVar 1)))))))
def m_znames : Mir := mir 2 7 F_znames
/-! znumber: 0 zbag_here 1 zway 2 zedge -/
def F_znumber : Fs :=
  (sSeq (sSet 1 (fR m_ztake 0 0 toVal (apHead 0 (fCons (fC (.int 4)) fNil))))
  (sSeq (sSet 2 (fBin itF (fOf (fLst (fCons (fBin powF (fOf (fC (.int 10))) (fOf (fC (.int 9)))) (fCons (fUn negF (fOf (fBin powF (fOf (fC (.int 10))) (fOf (fC (.int 9)))))) (fCons (fC (.int 0)) (fCons (fC (.int 1)) fNil)))))) (fOf (fR m_ztake 0 0 toVal (apHead 0 (fCons (fC (.int 4)) fNil))))))
  (sRet (fBin itF (fOf (fLst (fCons (fBin subF (fOf (fR m_ztake 0 0 toVal (apHead 0 (fCons (fC (.int 20)) fNil)))) (fOf (fC (.int 8)))) (fCons (rdVar 2) (fCons (fC (.int 3)) (fCons (fBin subF (fOf (fR m_ztake 0 0 toVal (apHead 0 (fCons (fBin addF (fOf (fBin mulG (fOf (fC (.int 2))) (fOf (fBin powF (fOf (fC (.int 10))) (fOf (fC (.int 9))))))) (fOf (fC (.int 1)))) fNil)))) (fOf (fBin powF (fOf (fC (.int 10))) (fOf (fC (.int 9)))))) fNil)))))) (pkVar 1)))))
def m_znumber : Mir := mir 1 3 F_znumber
/-! zshape: 0 zbag_here 1 zway 2 zleast -/
def F_zshape : Fs :=
  (sSeq (sSet 1 (fR m_ztake 0 0 toVal (apHead 0 (fCons (fC (.int 4)) fNil))))
  (sSeq (sSet 2 (fBin subF (fOf (fR m_ztake 0 0 toVal (apHead 0 (fCons (fC (.int 9)) fNil)))) (fOf (fC (.int 6)))))
  (sRet (fBin itF (fOf (fLst (fCons (fTup (fCons (fUn negF (fOf (fBin powF (fOf (fC (.int 10))) (fOf (fC (.int 9)))))) (fCons (fBin powF (fOf (fC (.int 10))) (fOf (fC (.int 9)))) fNil))) (fCons (fTup (fCons (fC (.int 0)) (fCons (fC (.int 9)) fNil))) (fCons (fTup (fCons (fUn negF (fOf (fC (.int 20)))) (fCons (fC (.int 40)) fNil))) (fCons (fTup (fCons (rdVar 2) (fCons (fBin addF (pkVar 2) (fOf (fR m_ztake 0 0 toVal (apHead 0 (fCons (fC (.int 30)) fNil))))) fNil))) fNil)))))) (pkVar 1)))))
def m_zshape : Mir := mir 1 3 F_zshape
/-! zsome: 0 zbag_here 1 zwords 2 zmany 3 zword -/
def I_zsome_1 : Fe (List D) := (iAny (rdVar 1))
def E_zsome_1 : Fe D := (rdVar 3)
def T_zsome_1 : Fe Bool := (fB (fBin eqF (fOf (fR m_ztake 0 0 toVal (apHead 0 (fCons (rdVar 2) fNil)))) (fOf (fC (.int 0)))))
def C_zsome_1 : Fe D := (fComp [3] I_zsome_1 (bName 3) T_zsome_1 E_zsome_1)
def F_zsome : Fs :=
  (sRet C_zsome_1)
def m_zsome : Mir := mir 3 4 F_zsome
/-! zturned: 0 zbag_here 1 zsome_here 2 zfound 3 zone -/
def I_zturned_1 : Fe (List D) := (iAny (rdVar 1))
def Y_zturned_1 : Fs := (sIns 2 (fR m_ztake 0 0 toVal (apHead 0 (fCons (fBin addF (fOf (fCall lenF (lCons (pkVar 2) lNil))) (fOf (fC (.int 1)))) fNil))) (rdVar 3))
def L_zturned_1 : Fs := (sFor I_zturned_1 (bName 3) Y_zturned_1)
def F_zturned : Fs :=
  (sSeq (sSetO 2 (fLst fNil))
  (sSeq L_zturned_1
  (sRetV 2)))
def m_zturned : Mir := mir 2 4 F_zturned
/-! zany: 0 zbag_here 1 zsome_here -/
def F_zany : Fs :=
  (sRet (fBin itF (pkVar 1) (fOf (fR m_ztake 0 0 toVal (apHead 0 (fCons (fCall lenF (lCons (pkVar 1) lNil)) fNil))))))
def m_zany : Mir := mir 2 2 F_zany
/-! zkept_row: 0 zbag_here 1 zword 2 zname 3 zleast 4 zmost 5 zfirst 6 zrow -/
def F_zkept_row : Fs :=
  (sSeq (sAsg (fR m_zshape 0 0 toVal (apHead 0 fNil)) (bTup 2 (bCons (bName 3) (bCons (bName 4) bNil))))
  (sSeq (sSet 5 (fBin addF (pkVar 3) (fOf (fR m_ztake 0 0 toVal (apHead 0 (fCons (fBin addF (fOf (fCall minF (lCons (fOf (fBin subF (pkVar 4) (pkVar 3))) (lCons (fOf (fC (.int 12))) lNil)))) (fOf (fC (.int 1)))) fNil))))))
  (sSeq (sSet 6 (fTup (fCons (rdVar 1) (fCons (rdVar 2) (fCons (rdVar 3) (fCons (rdVar 4) (fCons (rdVar 5) fNil)))))))
  (sSeq (sIf (fB (fBin eqF (pkVar 1) (fOf (fC (.str "key"))))) (sSet 6 (fBin addF (pkVar 6) (fOf (fTup (fCons (fBin itF (fOf (fLst (fCons (fC (.str "kept")) (fCons (fC (.str "kept")) (fCons (fC (.str "anew")) fNil))))) (fOf (fR m_ztake 0 0 toVal (apHead 0 (fCons (fC (.int 3)) fNil))))) fNil))))) sNext)
  (sRetV 6)))))
def m_zkept_row : Mir := mir 3 7 F_zkept_row
/-! zhook_row: 0 zbag_here 1 zhook 2 zpart 3 zparts 4 zothers 5 zbefores 6 zafters 7 zone -/
def I_zhook_row_1 : Fe (List D) := (iAny (fCall sortF (lCons (pkVar 3) lNil)))
def E_zhook_row_1 : Fe D := (rdVar 7)
def T_zhook_row_1 : Fe Bool := (fB (fBin neF (pkVar 7) (pkVar 2)))
def C_zhook_row_1 : Fe D := (fComp [7] I_zhook_row_1 (bName 7) T_zhook_row_1 E_zhook_row_1)
def I_zhook_row_2 : Fe (List D) := (iAny (rdVar 4))
def E_zhook_row_2 : Fe D := (rdVar 7)
def T_zhook_row_2 : Fe Bool := (fB (fBin niF (pkVar 7) (pkVar 5)))
def C_zhook_row_2 : Fe D := (fComp [7] I_zhook_row_2 (bName 7) T_zhook_row_2 E_zhook_row_2)
def F_zhook_row : Fs :=
  (sSeq (sSetO 4 C_zhook_row_1)
  (sSeq (sSet 5 (fR m_zsome 0 0 toVal (apHead 0 (fCons (rdVar 4) (fCons (fC (.int 7)) fNil)))))
  (sSeq (sSet 6 (fR m_zsome 0 0 toVal (apHead 0 (fCons C_zhook_row_2 (fCons (fC (.int 7)) fNil)))))
  (sRet (fBin addF (fOf (fTup (fCons (fC (.str "hook")) (fCons (rdVar 1) (fCons (fR m_ztake 0 0 toVal (apHead 0 (fCons (fC (.int 3)) fNil))) (fCons (fCall tupleF (lCons (pkVar 5) lNil)) (fCons (fCall tupleF (lCons (pkVar 6) lNil)) fNil))))))) (fOf (fR m_zshape 0 0 toVal (apHead 0 fNil))))))))
def m_zhook_row : Mir := mir 4 8 F_zhook_row
/-! zstep: 0 zbag_here 1 zat 2 zmany 3 zway 4 zword -/
def F_zstep : Fs :=
  (sSeq (sSet 3 (fR m_ztake 0 0 toVal (apHead 0 (fCons (fC (.int 15)) fNil))))
  (sSeq (sIf (fB (fBin ltF (pkVar 3) (fOf (fC (.int 3))))) (sRet (fTup (fCons (fBin itF (fOf (fLst (fCons (fC (.str "set")) (fCons (fC (.str "add")) (fCons (fC (.str "times")) fNil))))) (pkVar 3)) (fCons (fR m_znumber 0 0 toVal (apHead 0 fNil)) fNil)))) sNext)
  (sSeq (sIf (fB (fBin ltF (pkVar 3) (fOf (fC (.int 11))))) (sSeq (sSet 4 (fBin itF (fOf (fLst (fCons (fC (.str "load")) (fCons (fC (.str "keep")) (fCons (fC (.str "read")) (fCons (fC (.str "get")) (fCons (fC (.str "put")) (fCons (fC (.str "ask")) (fCons (fC (.str "emit")) (fCons (fC (.str "send")) fNil)))))))))) (fOf (fBin subF (pkVar 3) (fOf (fC (.int 3)))))))
  (sRet (fTup (fCons (rdVar 4) (fCons (fBin itF (fOf (fLst (fCons (fC (.str "a")) (fCons (fC (.str "a")) (fCons (fC (.str "b")) (fCons (fC (.str "ab")) fNil)))))) (fOf (fR m_ztake 0 0 toVal (apHead 0 (fCons (fC (.int 4)) fNil))))) fNil))))) sNext)
  (sSeq (sIf (fAnd (fB (fBin eqF (pkVar 3) (fOf (fC (.int 11))))) (fB (fBin ltF (fOf (fBin addF (pkVar 1) (fOf (fC (.int 1))))) (pkVar 2)))) (sRet (fTup (fCons (fC (.str "pass")) (fCons (fBin addF (fOf (fC (.int 1))) (fOf (fR m_ztake 0 0 toVal (apHead 0 (fCons (fBin subF (fOf (fBin subF (pkVar 2) (pkVar 1))) (fOf (fC (.int 1)))) fNil))))) fNil)))) sNext)
  (sSeq (sIf (fAnd (fB (fBin eqF (pkVar 3) (fOf (fC (.int 12))))) (fAnd (fB (fBin gtF (pkVar 1) (fOf (fC (.int 0))))) (fB (fBin eqF (fOf (fR m_ztake 0 0 toVal (apHead 0 (fCons (fC (.int 2)) fNil)))) (fOf (fC (.int 0))))))) (sRet (fTup (fCons (fC (.str "back")) (fCons (fBin addF (fOf (fC (.int 1))) (fOf (fR m_ztake 0 0 toVal (apHead 0 (fCons (rdVar 1) fNil))))) fNil)))) sNext)
  (sSeq (sIf (fAnd (fB (fBin eqF (pkVar 3) (fOf (fC (.int 13))))) (fB (fBin eqF (fOf (fR m_ztake 0 0 toVal (apHead 0 (fCons (fC (.int 3)) fNil)))) (fOf (fC (.int 0)))))) (sRet (fTup (fCons (fC (.str "refuse")) fNil))) sNext)
  (sRet (fTup (fCons (fC (.str "add")) (fCons (fBin addF (fOf (fC (.int 1))) (fOf (fR m_ztake 0 0 toVal (apHead 0 (fCons (fC (.int 5)) fNil))))) fNil))))))))))
def m_zstep : Mir := mir 3 5 F_zstep
/-! zlayers: 0 zbag_here 1 znames_here 2 zfound 3 zk 4 zdepth 5 zname 6 zone -/
def E_zlayers_1 : Fe D := (rdVar 6)
def T_zlayers_1 : Fe Bool := (fB (fBin eqF (fOf (fSlice (pkVar 6) ptNone (ptSome (fC (.int 2))))) (fOf (fTup (fCons (rdVar 4) (fCons (rdVar 5) fNil))))))
def C_zlayers_1 : Fe D := (fCompV 2 [6] (bName 6) T_zlayers_1 E_zlayers_1)
def I_zlayers_2 : Fe (List D) := (iRng1 (fR m_ztake 0 0 toVal (apHead 0 (fCons (fBin itF (fOf (fLst (fCons (fC (.int 3)) (fCons (fC (.int 13)) fNil)))) (fOf (fR m_ztake 0 0 toVal (apHead 0 (fCons (fC (.int 2)) fNil))))) fNil))))
def Y_zlayers_2 : Fs := (sSeq (sAsg (fTup (fCons (fBin addF (fOf (fC (.int 1))) (fOf (fR m_ztake 0 0 toVal (apHead 0 (fCons (fC (.int 9)) fNil))))) (fCons (fR m_zany 0 0 toVal (apHead 0 (fCons (rdVar 1) fNil))) fNil))) (bTup 2 (bCons (bName 4) (bCons (bName 5) bNil))))
  (sIf (fB (fBin eqF (fOf C_zlayers_1) (fOf (fLst fNil)))) (sApp 2 (fTup (fCons (rdVar 4) (fCons (rdVar 5) (fCons (fR m_znumber 0 0 toVal (apHead 0 fNil)) fNil))))) sNext))
def L_zlayers_2 : Fs := (sFor I_zlayers_2 (bName 3) Y_zlayers_2)
def F_zlayers : Fs :=
  (sSeq (sSetO 2 (fLst fNil))
  (sSeq L_zlayers_2
  (sRetV 2)))
def m_zlayers : Mir := mir 2 7 F_zlayers
/-! zface: 0 zbag_here 1 zpart 2 zparts 3 zwords 4 zcalls 5 zasks 6 zfront 7 zhooks 8 zrights 9 zword 10 zback 11 zcall 12 zhook 13 zevent 14 zwhat 15 zname -/
def I_zface_1 : Fe (List D) := (iAny (rdVar 3))
def E_zface_1 : Fe D := (rdVar 9)
def T_zface_1 : Fe Bool := (fB (fBin niF (pkVar 9) (pkVar 4)))
def C_zface_1 : Fe D := (fComp [9] I_zface_1 (bName 9) T_zface_1 E_zface_1)
def I_zface_2 : Fe (List D) := (iAny (rdVar 4))
def E_zface_2 : Fe D := (fBin addF (fOf (fTup (fCons (fC (.str "offer")) (fCons (rdVar 11) (fCons (fTup (fCons (fR m_ztake 0 0 toVal (apHead 0 (fCons (fC (.int 2)) fNil))) (fCons (fR m_ztake 0 0 toVal (apHead 0 (fCons (fC (.int 3)) fNil))) fNil))) fNil))))) (fOf (fR m_zshape 0 0 toVal (apHead 0 fNil))))
def C_zface_2 : Fe D := (fComp [11] I_zface_2 (bName 11) fYes E_zface_2)
def I_zface_3 : Fe (List D) := (iAny (rdVar 5))
def E_zface_3 : Fe D := (fTup (fCons (fC (.str "ask")) (fCons (rdVar 11) (fCons (fTup (fCons (fR m_ztake 0 0 toVal (apHead 0 (fCons (fC (.int 2)) fNil))) (fCons (fR m_ztake 0 0 toVal (apHead 0 (fCons (fC (.int 3)) fNil))) fNil))) fNil))))
def C_zface_3 : Fe D := (fComp [11] I_zface_3 (bName 11) fYes E_zface_3)
def I_zface_4 : Fe (List D) := (iAny (fLst (fCons (fC (.str "a")) (fCons (fC (.str "ab")) (fCons (fC (.str "b")) fNil)))))
def E_zface_4 : Fe D := (rdVar 12)
def T_zface_4 : Fe Bool := (fB (fBin gtF (fOf (fR m_ztake 0 0 toVal (apHead 0 (fCons (fC (.int 4)) fNil)))) (fOf (fBin mulG (fOf (fC (.int 2))) (fOf (fCall intF (lCons (fOf (fBin eqF (pkVar 12) (fOf (fC (.str "ab"))))) lNil)))))))
def C_zface_4 : Fe D := (fComp [12] I_zface_4 (bName 12) T_zface_4 E_zface_4)
def I_zface_5 : Fe (List D) := (iAny (rdVar 7))
def E_zface_5 : Fe D := (fR m_zhook_row 0 0 toVal (apHead 0 (fCons (rdVar 12) (fCons (rdVar 1) (fCons (rdVar 2) fNil)))))
def C_zface_5 : Fe D := (fComp [12] I_zface_5 (bName 12) fYes E_zface_5)
def I_zface_6 : Fe (List D) := (iAny (fR m_zsome 0 0 toVal (apHead 0 (fCons (fLst (fCons (fC (.str "a")) (fCons (fC (.str "b")) fNil))) (fCons (fC (.int 2)) fNil)))))
def E_zface_6 : Fe D := (fTup (fCons (fC (.str "on")) (fCons (rdVar 13) (fCons (fR m_ztake 0 0 toVal (apHead 0 (fCons (fC (.int 3)) fNil))) fNil))))
def C_zface_6 : Fe D := (fComp [13] I_zface_6 (bName 13) fYes E_zface_6)
def I_zface_7 : Fe (List D) := (iAny (fR m_zsome 0 0 toVal (apHead 0 (fCons (fLst (fCons (fC (.str "a")) (fCons (fC (.str "b")) fNil))) (fCons (fC (.int 2)) fNil)))))
def E_zface_7 : Fe D := (fTup (fCons (fC (.str "right")) (fCons (rdVar 9) (fCons (rdVar 14) (fCons (fBin addF (fOf (fC (.int 1))) (fOf (fR m_ztake 0 0 toVal (apHead 0 (fCons (fC (.int 3)) fNil))))) fNil)))))
def C_zface_7 : Fe D := (fComp [14] I_zface_7 (bName 14) fYes E_zface_7)
def I_zface_8 : Fe (List D) := (iAny (fLst (fCons (fC (.str "emit")) (fCons (fC (.str "get")) (fCons (fC (.str "put")) (fCons (fC (.str "read")) (fCons (fC (.str "send")) fNil)))))))
def Y_zface_8 : Fs := (sSet 8 (fBin addF (pkVar 8) (fOf C_zface_7)))
def L_zface_8 : Fs := (sFor I_zface_8 (bName 9) Y_zface_8)
def I_zface_9 : Fe (List D) := (iAny (fR m_zsome 0 0 toVal (apHead 0 (fCons (fLst (fCons (fC (.str "a")) (fCons (fC (.str "b")) fNil))) (fCons (fC (.int 3)) fNil)))))
def E_zface_9 : Fe D := (fTup (fCons (fC (.str "default")) (fCons (rdVar 15) (fCons (fR m_znumber 0 0 toVal (apHead 0 fNil)) fNil))))
def C_zface_9 : Fe D := (fComp [15] I_zface_9 (bName 15) fYes E_zface_9)
def I_zface_10 : Fe (List D) := (iAny (fLst (fCons (fC (.str "a")) (fCons (fC (.str "b")) fNil))))
def E_zface_10 : Fe D := (fR m_zkept_row 0 0 toVal (apHead 0 (fCons (fC (.str "key")) (fCons (rdVar 15) fNil))))
def T_zface_10 : Fe Bool := (fB (fBin gtF (fOf (fR m_ztake 0 0 toVal (apHead 0 (fCons (fC (.int 3)) fNil)))) (fOf (fC (.int 0)))))
def C_zface_10 : Fe D := (fComp [15] I_zface_10 (bName 15) T_zface_10 E_zface_10)
def I_zface_11 : Fe (List D) := (iAny (fR m_zsome 0 0 toVal (apHead 0 (fCons (fLst (fCons (fC (.str "a")) (fCons (fC (.str "b")) fNil))) (fCons (fC (.int 3)) fNil)))))
def E_zface_11 : Fe D := (fR m_zkept_row 0 0 toVal (apHead 0 (fCons (fC (.str "own")) (fCons (rdVar 15) fNil))))
def C_zface_11 : Fe D := (fComp [15] I_zface_11 (bName 15) fYes E_zface_11)
def F_zface : Fs :=
  (sSeq (sSet 3 (fLst (fCons (fC (.str "a")) (fCons (fC (.str "ab")) (fCons (fC (.str "b")) fNil)))))
  (sSeq (sSet 4 (fR m_zsome 0 0 toVal (apHead 0 (fCons (rdVar 3) (fCons (fC (.int 3)) fNil)))))
  (sSeq (sSet 5 (fR m_zsome 0 0 toVal (apHead 0 (fCons C_zface_1 (fCons (fC (.int 4)) fNil)))))
  (sSeq (sSetO 6 C_zface_2)
  (sSeq (sSet 6 (fBin addF (pkVar 6) (fOf C_zface_3)))
  (sSeq (sSetO 7 C_zface_4)
  (sSeq (sSet 6 (fBin addF (pkVar 6) (fOf C_zface_5)))
  (sSeq (sSet 6 (fBin addF (pkVar 6) (fOf C_zface_6)))
  (sSeq (sSet 8 (fLst fNil))
  (sSeq L_zface_8
  (sSeq (sSetO 10 C_zface_9)
  (sSeq (sSet 10 (fBin addF (pkVar 10) (fOf C_zface_10)))
  (sSeq (sSet 10 (fBin addF (pkVar 10) (fOf C_zface_11)))
  (sSeq (sSet 10 (fBin addF (pkVar 10) (fOf (fBin mulG (fOf (fLst (fCons (fTup (fCons (fC (.str "steps")) (fCons (fBin addF (fOf (fC (.int 1))) (fOf (fR m_ztake 0 0 toVal (apHead 0 (fCons (fC (.int 60)) fNil))))) fNil))) fNil))) (fOf (fCall intF (lCons (fOf (fBin eqF (fOf (fR m_ztake 0 0 toVal (apHead 0 (fCons (fC (.int 3)) fNil)))) (fOf (fC (.int 0))))) lNil)))))))
  (sRet (fCall tupleF (lCons (fOf (fBin addF (fOf (fBin addF (pkVar 6) (fOf (fSlice (pkVar 8) ptNone (ptSome (fBin subF (fOf (fBin subF (fOf (fC (.int 16))) (fOf (fCall lenF (lCons (pkVar 6) lNil))))) (fOf (fCall lenF (lCons (pkVar 10) lNil))))))))) (pkVar 10))) lNil)))))))))))))))))
def m_zface : Mir := mir 3 16 F_zface
/-! zbody: 0 zbag_here 1 zface_here 2 znames_here 3 zfound 4 zrow 5 zmany 6 zsteps 7 zstock 8 zat -/
def I_zbody_1 : Fe (List D) := (iRng1 (rdVar 5))
def E_zbody_1 : Fe D := (fR m_zstep 0 0 toVal (apHead 0 (fCons (rdVar 8) (fCons (rdVar 5) fNil))))
def C_zbody_1 : Fe D := (fComp [8] I_zbody_1 (bName 8) fYes E_zbody_1)
def I_zbody_2 : Fe (List D) := (iAny (rdVar 1))
def Y_zbody_2 : Fs := (sIf (fB (fBin inF (fOf (fBin itF (pkVar 4) (fOf (fC (.int 0))))) (fOf (fTup (fCons (fC (.str "offer")) (fCons (fC (.str "hook")) (fCons (fC (.str "on")) fNil))))))) (sSeq (sSet 5 (fR m_ztake 0 0 toVal (apHead 0 (fCons (fC (.int 8)) fNil))))
  (sSeq (sSet 6 (fCall tupleF (lCons (fOf C_zbody_1) lNil)))
  (sSeq (sSet 7 (fTup (fCons (fC (.str "stock")) (fCons (fBin itF (pkVar 2) (fOf (fR m_ztake 0 0 toVal (apHead 0 (fCons (fCall lenF (lCons (pkVar 2) lNil)) fNil))))) fNil))))
  (sApp 3 (fBin itF (fOf (fLst (fCons (fTup (fCons (fC (.str "steps")) (fCons (rdVar 6) fNil))) (fCons (fTup (fCons (fC (.str "steps")) (fCons (rdVar 6) fNil))) (fCons (rdVar 7) fNil))))) (fOf (fR m_ztake 0 0 toVal (apHead 0 (fCons (fC (.int 3)) fNil))))))))) sNext)
def L_zbody_2 : Fs := (sFor I_zbody_2 (bName 4) Y_zbody_2)
def F_zbody : Fs :=
  (sSeq (sSetO 3 (fLst fNil))
  (sSeq L_zbody_2
  (sRet (fCall tupleF (lCons (pkVar 3) lNil)))))
def m_zbody : Mir := mir 3 9 F_zbody
/-! zmake: 0 zbag_here 1 zpart 2 zversion 3 zparts 4 znames_here 5 zface_here -/
def F_zmake : Fs :=
  (sSeq (sSet 5 (fR m_zface 0 0 toVal (apHead 0 (fCons (rdVar 1) (fCons (rdVar 3) fNil)))))
  (sRet (fTup (fCons (fC (.str "make")) (fCons (rdVar 1) (fCons (rdVar 2) (fCons (rdVar 5) (fCons (fR m_zbody 0 0 toVal (apHead 0 (fCons (rdVar 5) (fCons (rdVar 4) fNil)))) fNil))))))))
def m_zmake : Mir := mir 5 6 F_zmake
/-! zsome_makes: 0 zbag_here 1 znames_here 2 zparts 3 zfound 4 zpart 5 zversion 6 zmake_here 7 zrows 8 zname -/
def I_zsome_makes_1 : Fe (List D) := (iAny (fCall sortF (lCons (pkVar 1) lNil)))
def E_zsome_makes_1 : Fe D := (fTup (fCons (fC (.str "default")) (fCons (rdVar 8) (fCons (fR m_znumber 0 0 toVal (apHead 0 fNil)) fNil))))
def T_zsome_makes_1 : Fe Bool := (fB (fBin eqF (fOf (fR m_ztake 0 0 toVal (apHead 0 (fCons (fC (.int 3)) fNil)))) (fOf (fC (.int 0)))))
def C_zsome_makes_1 : Fe D := (fComp [8] I_zsome_makes_1 (bName 8) T_zsome_makes_1 E_zsome_makes_1)
def I_zsome_makes_2 : Fe (List D) := (iAny (rdVar 2))
def Y_zsome_makes_2 : Fs := (sSeq (sSet 5 (fTup (fCons (fR m_ztake 0 0 toVal (apHead 0 (fCons (fC (.int 10)) fNil))) (fCons (fR m_ztake 0 0 toVal (apHead 0 (fCons (fC (.int 10)) fNil))) fNil))))
  (sSeq (sSet 6 (fR m_zmake 0 0 toVal (apHead 0 (fCons (rdVar 4) (fCons (rdVar 5) (fCons (rdVar 2) (fCons (fLst (fCons (fC (.str "plain")) fNil)) fNil)))))))
  (sSeq (sIf (fB (fBin gtF (fOf (fR m_ztake 0 0 toVal (apHead 0 (fCons (fC (.int 3)) fNil)))) (fOf (fC (.int 0))))) (sSeq (sSetO 7 C_zsome_makes_1)
  (sSet 6 (fTup (fCons (fC (.str "make")) (fCons (rdVar 4) (fCons (rdVar 5) (fCons (fCall tupleF (lCons (pkVar 7) lNil)) (fCons (fTup fNil) fNil)))))))) sNext)
  (sApp 3 (rdVar 6)))))
def L_zsome_makes_2 : Fs := (sFor I_zsome_makes_2 (bName 4) Y_zsome_makes_2)
def F_zsome_makes : Fs :=
  (sSeq (sSetO 3 (fLst fNil))
  (sSeq L_zsome_makes_2
  (sRetV 3)))
def m_zsome_makes : Mir := mir 3 9 F_zsome_makes
/-! zcopy: 0 zthing 1 zone 2 zname -/
def I_zcopy_1 (mc : Mir) : Fe (List D) := (iAny (rdVar 0))
def E_zcopy_1 (mc : Mir) : Fe D := (fV mc (fCons (rdVar 1) fNil))
def C_zcopy_1 (mc : Mir) : Fe D := (fComp [1] (I_zcopy_1 mc) (bName 1) fYes (E_zcopy_1 mc))
def I_zcopy_2 (mc : Mir) : Fe (List D) := (iAny (rdVar 0))
def E_zcopy_2 (mc : Mir) : Fe D := (fV mc (fCons (rdVar 1) fNil))
def C_zcopy_2 (mc : Mir) : Fe D := (fComp [1] (I_zcopy_2 mc) (bName 1) fYes (E_zcopy_2 mc))
def F_zcopy (mc : Mir) : Fs :=
  (sSeq (sIf (fB (fIsi "list" (pkVar 0))) (sRet (C_zcopy_1 mc)) sNext)
  (sSeq (sIf (fB (fIsi "tuple" (pkVar 0))) (sRet (fCall tupleF (lCons (fOf (C_zcopy_2 mc)) lNil))) sNext)
  (sSeq (sIf (fB (fIsi "dict" (pkVar 0))) sBad sNext)
  (sRetV 0))))
def m_zcopy : Nat → Mir
  | 0 => mir 1 3 sBad
  | n + 1 => mir 1 3 (F_zcopy (m_zcopy n))
/-! law: 0 zscript 1 zbag_here 2 zparts 3 znames_here 4 zturn 5 zlayers_here 6 zmakes 7 zhanded 8 zname 9 zfound -/
def I_law_1 : Fe (List D) := (iAny (fR m_znames 0 1 toVal (apHead 1 (fCons (fC (.int 1)) fNil))))
def E_law_1 : Fe D := (rdVar 8)
def T_law_1 : Fe Bool := (fB (fBin niF (pkVar 8) (fOf (fTup (fCons (fC (.str "a")) (fCons (fC (.str "b")) fNil))))))
def C_law_1 : Fe D := (fComp [8] I_law_1 (bName 8) T_law_1 E_law_1)
def I_law_2 : Fe (List D) := (iAny (fBin mulG (fOf (fR m_zturned 0 1 toVal (apHead 1 (fCons (fBin addF (pkVar 3) (fOf (fLst (fCons (fC (.str "zz")) fNil)))) fNil)))) (fOf (fC (.int 2)))))
def Y_law_2 : Fs := (sSeq (sSet 9 (fV m_setting_of (fCons (rdVar 8) (fCons (fBin itF (pkVar 7) (fOf (fC (.int 0)))) (fCons (fBin itF (pkVar 7) (fOf (fC (.int 1)))) fNil)))))
  (sIf (fOr (fNot (fB (fV m_zalike (fCons (rdVar 9) (fCons (fV m_zsetting (fCons (rdVar 8) (fCons (rdVar 5) (fCons (rdVar 6) fNil)))) fNil))))) (fNot (fB (fV m_zalike (fCons (rdVar 7) (fCons (fLst (fCons (rdVar 5) (fCons (rdVar 6) fNil))) fNil)))))) (sRet (fC (.bool false))) sNext))
def L_law_2 : Fs := (sFor I_law_2 (bName 8) Y_law_2)
def I_law_3 : Fe (List D) := (iRng1 (fC (.int 4)))
def Y_law_3 : Fs := (sSeq (sSet 5 (fR m_zturned 0 1 toVal (apHead 1 (fCons (fR m_zlayers 0 1 toVal (apHead 1 (fCons (rdVar 3) fNil))) fNil))))
  (sSeq (sSet 6 (fR m_zturned 0 1 toVal (apHead 1 (fCons (fR m_zsome_makes 0 1 toVal (apHead 1 (fCons (rdVar 3) (fCons (rdVar 2) fNil)))) fNil))))
  (sSeq (sSet 7 (fLst (fCons (fV (m_zcopy 12) (fCons (rdVar 5) fNil)) (fCons (fV (m_zcopy 12) (fCons (rdVar 6) fNil)) fNil))))
  L_law_2)))
def L_law_3 : Fs := (sFor I_law_3 (bName 4) Y_law_3)
def F_law : Fs :=
  (sSeq (sSetO 1 (fVO m_zbag (fCons (rdVar 0) fNil)))
  (sSeq (sSet 2 (fR m_znames 0 1 toVal (apHead 1 (fCons (fBin addF (fOf (fC (.int 1))) (fOf (fR m_ztake 0 1 toVal (apHead 1 (fCons (fC (.int 5)) fNil))))) fNil))))
  (sSeq (sSet 3 (fBin addF (fOf (fLst (fCons (fC (.str "a")) (fCons (fC (.str "b")) fNil)))) (fOf C_law_1)))
  (sSeq L_law_3
  (sRet (fC (.bool true)))))))
def m_law : Mir := mir 1 10 F_law
end k61

set_option Elab.async false
set_option linter.all false
set_option maxRecDepth 100000
set_option maxHeartbeats 0
namespace k61
open PySem PySem.Spec PyProof.Rows L2 Dl
def topS (i : Nat) : Stmt := PySem.Challenge.pw_plughall_k61_setting_told.main.body.getD i (.Pass ⟨0, 0, 0, 0⟩)
def nmT : Nat → Nat → Str := fun _ _ => "deepest.<locals>.<lambda>"
structure T (K : PySem.W.Frag) (mg : Str → Option Value) where
  sy : SysD K
  a_deepest : Addr
  d_deepest : FuncData
  F_deepest : Fun K "deepest" "deepest" (topS 1) a_deepest d_deepest
  G_deepest : mg "deepest" = some (.ref a_deepest)
  a_brought : Addr
  d_brought : FuncData
  F_brought : Fun K "brought" "brought" (topS 2) a_brought d_brought
  G_brought : mg "brought" = some (.ref a_brought)
  a_setting_of : Addr
  d_setting_of : FuncData
  F_setting_of : Fun K "setting_of" "setting_of" (topS 3) a_setting_of d_setting_of
  G_setting_of : mg "setting_of" = some (.ref a_setting_of)
  a_zbag : Addr
  d_zbag : FuncData
  F_zbag : Fun K "_law_bag" "_law_bag" (topS 5) a_zbag d_zbag
  G_zbag : mg "_law_bag" = some (.ref a_zbag)
  a_ztake : Addr
  d_ztake : FuncData
  F_ztake : Fun K "_law_take" "_law_take" (topS 6) a_ztake d_ztake
  G_ztake : mg "_law_take" = some (.ref a_ztake)
  a_zalike : Addr
  d_zalike : FuncData
  F_zalike : Fun K "_law_alike" "_law_alike" (topS 7) a_zalike d_zalike
  G_zalike : mg "_law_alike" = some (.ref a_zalike)
  a_zcopy : Addr
  d_zcopy : FuncData
  F_zcopy : Fun K "_law_copy" "_law_copy" (topS 8) a_zcopy d_zcopy
  G_zcopy : mg "_law_copy" = some (.ref a_zcopy)
  a_znames : Addr
  d_znames : FuncData
  F_znames : Fun K "_law_names" "_law_names" (topS 9) a_znames d_znames
  G_znames : mg "_law_names" = some (.ref a_znames)
  a_znumber : Addr
  d_znumber : FuncData
  F_znumber : Fun K "_law_number" "_law_number" (topS 10) a_znumber d_znumber
  G_znumber : mg "_law_number" = some (.ref a_znumber)
  a_zshape : Addr
  d_zshape : FuncData
  F_zshape : Fun K "_law_shape" "_law_shape" (topS 11) a_zshape d_zshape
  G_zshape : mg "_law_shape" = some (.ref a_zshape)
  a_zsome : Addr
  d_zsome : FuncData
  F_zsome : Fun K "_law_some" "_law_some" (topS 12) a_zsome d_zsome
  G_zsome : mg "_law_some" = some (.ref a_zsome)
  a_zkept_row : Addr
  d_zkept_row : FuncData
  F_zkept_row : Fun K "_law_kept_row" "_law_kept_row" (topS 13) a_zkept_row d_zkept_row
  G_zkept_row : mg "_law_kept_row" = some (.ref a_zkept_row)
  a_zhook_row : Addr
  d_zhook_row : FuncData
  F_zhook_row : Fun K "_law_hook_row" "_law_hook_row" (topS 14) a_zhook_row d_zhook_row
  G_zhook_row : mg "_law_hook_row" = some (.ref a_zhook_row)
  a_zface : Addr
  d_zface : FuncData
  F_zface : Fun K "_law_face" "_law_face" (topS 15) a_zface d_zface
  G_zface : mg "_law_face" = some (.ref a_zface)
  a_zstep : Addr
  d_zstep : FuncData
  F_zstep : Fun K "_law_step" "_law_step" (topS 16) a_zstep d_zstep
  G_zstep : mg "_law_step" = some (.ref a_zstep)
  a_zbody : Addr
  d_zbody : FuncData
  F_zbody : Fun K "_law_body" "_law_body" (topS 17) a_zbody d_zbody
  G_zbody : mg "_law_body" = some (.ref a_zbody)
  a_zmake : Addr
  d_zmake : FuncData
  F_zmake : Fun K "_law_make" "_law_make" (topS 18) a_zmake d_zmake
  G_zmake : mg "_law_make" = some (.ref a_zmake)
  a_zturned : Addr
  d_zturned : FuncData
  F_zturned : Fun K "_law_turned" "_law_turned" (topS 19) a_zturned d_zturned
  G_zturned : mg "_law_turned" = some (.ref a_zturned)
  a_zany : Addr
  d_zany : FuncData
  F_zany : Fun K "_law_any" "_law_any" (topS 20) a_zany d_zany
  G_zany : mg "_law_any" = some (.ref a_zany)
  a_zlayers : Addr
  d_zlayers : FuncData
  F_zlayers : Fun K "_law_layers" "_law_layers" (topS 21) a_zlayers d_zlayers
  G_zlayers : mg "_law_layers" = some (.ref a_zlayers)
  a_zsome_makes : Addr
  d_zsome_makes : FuncData
  F_zsome_makes : Fun K "_law_some_makes" "_law_some_makes" (topS 22) a_zsome_makes d_zsome_makes
  G_zsome_makes : mg "_law_some_makes" = some (.ref a_zsome_makes)
  a_zsetting : Addr
  d_zsetting : FuncData
  F_zsetting : Fun K "_law_setting" "_law_setting" (topS 23) a_zsetting d_zsetting
  G_zsetting : mg "_law_setting" = some (.ref a_zsetting)
  a_law : Addr
  d_law : FuncData
  F_law : Fun K "law" "law" (topS 24) a_law d_law
  G_law : mg "law" = some (.ref a_law)
  n_min : mg "min" = none
  n_abs : mg "abs" = none
  n_len : mg "len" = none
  n_repr : mg "repr" = none
  n_max : mg "max" = none
  n_int : mg "int" = none
  n_range : mg "range" = none
  n_enumerate : mg "enumerate" = none
  n_sorted : mg "sorted" = none
  n_tuple : mg "tuple" = none
  n_isinstance : mg "isinstance" = none
  n_list : mg "list" = none
  n_dict : mg "dict" = none
section
variable [TabC] {P : Program} {w : World} {K : PySem.W.Frag} {mg : Str → Option Value} {base : Heap}
theorem sc_deepest : FnScope ["name", "layers", "told", "depth", "setting", "number"] ["name", "layers"] (defScope (topS 1)) := ⟨rfl, rfl, rfl, by decide +kernel, rfl, by decide +kernel, by decide +kernel⟩
theorem g_deepest (t : T K mg) (u : TabU base mg t.d_deepest nmT) : FnG P w K mg base 1 t.a_deepest t.d_deepest ["name", "layers"] m_deepest := by
  obtain ⟨c, Pt, hc, tb, hT⟩ := u
  exact fnG_ofT t.F_deepest hc sc_deepest (t.F_deepest.binds fun _ _ _ _ _ _ us hl => match us, hl with | [_, _], _ => rfl) rfl rfl fun A outer s H E ok =>
  (ds_cons (ds_setLc (i := 2) (own := [("depth", 3), ("setting", 4), ("number", 5)]) rfl sc_deepest.nd rfl rfl rfl rfl (by decide +kernel) (di_any (de_var (i := 1) rfl (.inl rfl))) (blkOk_by (N := ["name", "layers", "told", "depth", "setting", "number"]) (sc := defScope (topS 1)) (by decide +kernel)) (by decide) (fun _ _ _ _ _ => (dg_tup rfl (dgs_cons (dg_name (i := 3) sc_deepest.nd rfl (.inl rfl)) (dgs_cons (dg_name (i := 4) sc_deepest.nd rfl (.inl rfl)) (dgs_cons (dg_name (i := 5) sc_deepest.nd rfl (.inl rfl)) dgs_nil))))) (fun _ _ _ _ _ => (dts_one (dt_cmp (op_eqA ok.blk.hu) (dp_var (i := 4) rfl (.inl rfl)) (dp_var (i := 0) rfl (.inr (.inl rfl))) (nomark _)))) (fun _ _ _ _ _ => (de_tup (da_cons (de_var (i := 3) rfl (.inl rfl)) (da_cons (de_var (i := 5) rfl (.inl rfl)) da_nil)))))
  (ds_cons (ds_sortHdX (v := 2) (pn := "row") tb rfl hT rfl ok.room (by decide +kernel) (fun _ _ _ _ _ _ _ => rfl) ⟨_, _, _, _, rfl⟩ rfl (.inl rfl) rfl (by decide +kernel) (by decide +kernel))
  (ds_cons (ds_if (dt_cmp (op_eqE ok.hu) (dp_var (i := 2) rfl (.inl rfl)) (dp_o (de_lst da_nil)) (nomark _)) (ds_one (ds_ret de_non)) ds_nil)
  (ds_one (ds_ret (de_ix ix_D opD_rD (dp_o (de_ix ix_D opD_rD (dp_var (i := 2) rfl (.inl rfl)) (dp_o (de_neg (dp_o de_int))) (fun _ _ => rfl))) (dp_o de_int) (fun _ _ => rfl)))))))
theorem sc_brought : FnScope ["name", "makes", "found", "word", "part", "version", "face", "body", "kind", "things"] ["name", "makes"] (defScope (topS 2)) := ⟨rfl, rfl, rfl, by decide +kernel, rfl, by decide +kernel, by decide +kernel⟩
theorem g_brought (t : T K mg) : FnG P w K mg base 1 t.a_brought t.d_brought ["name", "makes"] m_brought :=
  fnG_of t.F_brought sc_brought (t.F_brought.binds fun _ _ _ _ _ _ us hl => match us, hl with | [_, _], _ => rfl) rfl rfl fun cdv A outer s H E ok =>
  (ds_cons (ds_setO (i := 2) sc_brought.nd rfl (.inl rfl) do_dnew)
  (ds_cons (ds_for (passes_of rfl) rfl (di_any (de_var (i := 1) rfl (.inl rfl))) (dg_tup rfl (dgs_cons (dg_name (i := 3) sc_brought.nd rfl (.inl rfl)) (dgs_cons (dg_name (i := 4) sc_brought.nd rfl (.inl rfl)) (dgs_cons (dg_name (i := 5) sc_brought.nd rfl (.inl rfl)) (dgs_cons (dg_name (i := 6) sc_brought.nd rfl (.inl rfl)) (dgs_cons (dg_name (i := 7) sc_brought.nd rfl (.inl rfl)) dgs_nil)))))) (ds_one (ds_forH (passes_of rfl) rfl (di_any (de_var (i := 6) rfl (.inl rfl))) (dg_star (i := 8) (j := 9) rfl sc_brought.nd rfl rfl (.inl rfl) (.inl rfl)) (ds_one (ds_if (dt_w (dw_and (dt_cmp (op_eqA ok.hu) (dp_var (i := 8) rfl (.inl rfl)) (dp_o de_str) (nomark _)) (dw_and1 (dt_cmp (op_eqA ok.hu) (dp_o (de_ix ix_D opD_rD (dp_var (i := 9) rfl (.inl rfl)) (dp_o de_int) (fun _ _ => rfl))) (dp_var (i := 0) rfl (.inl rfl)) (nomark _))))) (ds_one (ds_itemD (v := 2) ok.hu rfl (.inl rfl) (de_var (i := 4) rfl (.inl rfl)) (de_ix ix_D opD_rD (dp_var (i := 9) rfl (.inl rfl)) (dp_o de_int) (fun _ _ => rfl)))) ds_nil)))))
  (ds_cons (ds_if (dt_cmp (op_eqK ok.hu) (dp_var (i := 2) rfl (.inl rfl)) (dp_o (de_do do_dnew)) (nomark _)) (ds_one (ds_ret de_non)) ds_nil)
  (ds_one (ds_ret (de_dix ok.hu (dp_var (i := 2) rfl (.inl rfl)) (de_callB (call_minKD ok.hu rfl) rfl t.n_min (by decide +kernel) (dl_cons (dp_var (i := 2) rfl (.inl rfl)) dl_nil))))))))
theorem sc_zbag : FnScope ["_law_script", "_law_cell"] ["_law_script"] (defScope (topS 5)) := ⟨rfl, rfl, rfl, by decide +kernel, rfl, by decide +kernel, by decide +kernel⟩
theorem g_zbag (t : T K mg) : FnG P w K mg base 1 t.a_zbag t.d_zbag ["_law_script"] m_zbag :=
  fnG_of t.F_zbag sc_zbag (t.F_zbag.binds fun _ _ _ _ _ _ us hl => match us, hl with | [_], _ => rfl) rfl rfl fun cdv A outer s H E ok =>
  (ds_one (ds_retO (do_lst (da_cons de_int (da_cons de_int (da_cons de_int (da_cons (de_do (do_comp (own := [("_law_cell", 1)]) rfl sc_zbag.nd (di_any (de_slice (dp_var (i := 0) rfl (.inl rfl)) dpt_none (dpt_some de_int))) (blkOk_by (N := ["_law_script", "_law_cell"]) (sc := defScope (topS 5)) (by decide +kernel)) (by decide) (fun _ _ _ _ _ => (dg_name (i := 1) sc_zbag.nd rfl (.inl rfl))) (fun _ _ _ _ _ => dts_nil) (fun _ _ _ _ _ => (de_callB call_absD rfl t.n_abs (by decide +kernel) (dl_cons (dp_var (i := 1) rfl (.inl rfl)) dl_nil))))) da_nil)))))))
theorem sc_ztake : FnScope ["_law_bag_here", "_law_many", "_law_cell", "_law_value", "_law_first", "_law_second"] ["_law_bag_here", "_law_many"] (defScope (topS 6)) := ⟨rfl, rfl, rfl, by decide +kernel, rfl, by decide +kernel, by decide +kernel⟩
theorem g_ztake (t : T K mg) : FnG P w K mg base 1 t.a_ztake t.d_ztake ["_law_bag_here", "_law_many"] m_ztake :=
  fnG_of t.F_ztake sc_ztake (t.F_ztake.binds fun _ _ _ _ _ _ us hl => match us, hl with | [_, _], _ => rfl) rfl rfl fun cdv A outer s H E ok =>
  (ds_cons (ds_if (dt_cmp (op_eqA ok.hu) (dp_o (de_ix ix_D opD_rD (dp_var (i := 0) rfl (.inl rfl)) (dp_o de_int) (fun _ _ => rfl))) (dp_o de_int) (nomark _)) (ds_cons (ds_set (i := 2) sc_ztake.nd rfl (.inl rfl) de_int)
  (ds_cons (ds_if (dt_cmp (op_ltA ok.hu) (dp_o (de_ix ix_D opD_rD (dp_var (i := 0) rfl (.inl rfl)) (dp_o de_int) (fun _ _ => rfl))) (dp_o (de_callB call_lenD rfl t.n_len (by decide +kernel) (dl_cons (dp_o (de_ix ix_D opD_rD (dp_var (i := 0) rfl (.inl rfl)) (dp_o de_int) (fun _ _ => rfl))) dl_nil))) (nomark _)) (ds_one (ds_set (i := 2) sc_ztake.nd rfl (.inl rfl) (de_ix ix_D opD_rD (dp_o (de_ix ix_D opD_rD (dp_var (i := 0) rfl (.inl rfl)) (dp_o de_int) (fun _ _ => rfl))) (dp_o (de_ix ix_D opD_rD (dp_var (i := 0) rfl (.inl rfl)) (dp_o de_int) (fun _ _ => rfl))) (fun _ _ => rfl)))) ds_nil)
  (ds_cons (ds_augI (v := 0) ip_add rfl (.inl rfl) de_int de_int)
  (ds_cons (ds_if (dt_cmp (op_geA ok.hu) (dp_var (i := 2) rfl (.inl rfl)) (dp_o de_int) (nomark _)) (ds_one (ds_itemV (v := 0) rfl (.inl rfl) de_int (de_var (i := 2) rfl (.inl rfl)))) ds_nil)
  (ds_one (ds_itemV (v := 0) rfl (.inl rfl) de_int (de_op op_modD opD_rD (dp_o (de_op op_addD opD_rD (dp_o (de_op op_addD opD_rD (dp_o (de_op op_mulD opD_rD (dp_o (de_ix ix_D opD_rD (dp_var (i := 0) rfl (.inl rfl)) (dp_o de_int) (fun _ _ => rfl))) (dp_o de_int))) (dp_o (de_op op_modD opD_rD (dp_var (i := 2) rfl (.inl rfl)) (dp_o de_int))))) (dp_o (de_op op_mulD opD_rD (dp_o de_int) (dp_o (de_ix ix_D opD_rD (dp_var (i := 0) rfl (.inl rfl)) (dp_o de_int) (fun _ _ => rfl))))))) (dp_o de_int)))))))) ds_nil)
  (ds_cons (ds_if (dt_cmp (op_gtA ok.hu) (dp_o (de_ix ix_D opD_rD (dp_var (i := 0) rfl (.inl rfl)) (dp_o de_int) (fun _ _ => rfl))) (dp_o de_int) (nomark _)) (ds_cons (ds_set (i := 3) sc_ztake.nd rfl (.inl rfl) (de_op op_modD opD_rD (dp_o (de_ix ix_D opD_rD (dp_var (i := 0) rfl (.inl rfl)) (dp_o de_int) (fun _ _ => rfl))) (dp_var (i := 1) rfl (.inl rfl))))
  (ds_cons (ds_itemV (v := 0) rfl (.inl rfl) de_int (de_op op_divD opD_rD (dp_o (de_ix ix_D opD_rD (dp_var (i := 0) rfl (.inl rfl)) (dp_o de_int) (fun _ _ => rfl))) (dp_var (i := 1) rfl (.inl rfl))))
  (ds_one (ds_retV (i := 3) rfl (.inl rfl))))) ds_nil)
  (ds_cons (ds_set (i := 4) sc_ztake.nd rfl (.inl rfl) (de_op op_modD opD_rD (dp_o (de_op op_mulD opD_rD (dp_o (de_op op_addD opD_rD (dp_o (de_ix ix_D opD_rD (dp_var (i := 0) rfl (.inl rfl)) (dp_o de_int) (fun _ _ => rfl))) (dp_o de_int))) (dp_o de_int))) (dp_o de_int)))
  (ds_cons (ds_set (i := 5) sc_ztake.nd rfl (.inl rfl) (de_op op_modD opD_rD (dp_o (de_op op_mulD opD_rD (dp_o (de_op op_modD opD_rD (dp_o (de_op op_mulD opD_rD (dp_var (i := 4) rfl (.inl rfl)) (dp_var (i := 4) rfl (.inl rfl)))) (dp_o de_int))) (dp_o de_int))) (dp_o de_int)))
  (ds_cons (ds_if (dt_cmp (op_gtA ok.hu) (dp_var (i := 1) rfl (.inl rfl)) (dp_o de_int) (nomark _)) (ds_one (ds_ret (de_op op_modD opD_rD (dp_o (de_op op_addD opD_rD (dp_o (de_op op_mulD opD_rD (dp_var (i := 5) rfl (.inl rfl)) (dp_o de_int))) (dp_var (i := 4) rfl (.inl rfl)))) (dp_var (i := 1) rfl (.inl rfl))))) ds_nil)
  (ds_one (ds_ret (de_op op_modD opD_rD (dp_o (de_op op_divD opD_rD (dp_var (i := 5) rfl (.inl rfl)) (dp_o de_int))) (dp_var (i := 1) rfl (.inl rfl))))))))))
theorem sc_zalike : FnScope ["_law_found", "_law_due"] ["_law_found", "_law_due"] (defScope (topS 7)) := ⟨rfl, rfl, rfl, by decide +kernel, rfl, by decide +kernel, by decide +kernel⟩
theorem g_zalike (t : T K mg) : FnG P w K mg base 1 t.a_zalike t.d_zalike ["_law_found", "_law_due"] m_zalike :=
  fnG_of t.F_zalike sc_zalike (t.F_zalike.binds fun _ _ _ _ _ _ us hl => match us, hl with | [_, _], _ => rfl) rfl rfl fun cdv A outer s H E ok =>
  (ds_one (ds_ret (de_and (de_cmp (op_eqA ok.hu) opD_rD (dp_var (i := 0) rfl (.inl rfl)) (dp_var (i := 1) rfl (.inl rfl)) (nomark _)) (de_one (de_cmp (op_eqA ok.hu) opD_rD (dp_o (de_callB (call_reprG ok t.sy) rfl t.n_repr (by decide +kernel) (dl_cons (dp_var (i := 0) rfl (.inl rfl)) dl_nil))) (dp_o (de_callB (call_reprG ok t.sy) rfl t.n_repr (by decide +kernel) (dl_cons (dp_var (i := 1) rfl (.inl rfl)) dl_nil))) (nomark _))))))
theorem sc_zsetting : FnScope ["_law_name", "_law_layers_here", "_law_makes", "_law_told", "_law_found", "_law_make_here", "_law_layer", "_law_row"] ["_law_name", "_law_layers_here", "_law_makes"] (defScope (topS 23)) := ⟨rfl, rfl, rfl, by decide +kernel, rfl, by decide +kernel, by decide +kernel⟩
theorem g_zsetting (t : T K mg) : FnG P w K mg base 1 t.a_zsetting t.d_zsetting ["_law_name", "_law_layers_here", "_law_makes"] m_zsetting :=
  fnG_of t.F_zsetting sc_zsetting (t.F_zsetting.binds fun _ _ _ _ _ _ us hl => match us, hl with | [_, _, _], _ => rfl) rfl rfl fun cdv A outer s H E ok =>
  (ds_cons (ds_setLc (i := 3) (own := [("_law_layer", 6)]) rfl sc_zsetting.nd rfl rfl rfl rfl (by decide +kernel) (di_any (de_var (i := 1) rfl (.inl rfl))) (blkOk_by (N := ["_law_name", "_law_layers_here", "_law_makes", "_law_told", "_law_found", "_law_make_here", "_law_layer", "_law_row"]) (sc := defScope (topS 23)) (by decide +kernel)) (by decide) (fun _ _ _ _ _ => (dg_name (i := 6) sc_zsetting.nd rfl (.inl rfl))) (fun _ _ _ _ _ => (dts_one (dt_cmp (op_eqA ok.blk.hu) (dp_o (de_ix ix_D opD_rD (dp_var (i := 6) rfl (.inl rfl)) (dp_o de_int) (fun _ _ => rfl))) (dp_var (i := 0) rfl (.inr (.inl rfl))) (nomark _)))) (fun _ _ _ _ _ => (de_tup (da_cons (de_ix ix_D opD_rD (dp_var (i := 6) rfl (.inl rfl)) (dp_o de_int) (fun _ _ => rfl)) (da_cons (de_ix ix_D opD_rD (dp_var (i := 6) rfl (.inl rfl)) (dp_o de_int) (fun _ _ => rfl)) da_nil)))))
  (ds_cons (ds_if (dt_cmp (op_neA ok.hu) (dp_var (i := 3) rfl (.inl rfl)) (dp_o (de_lst da_nil)) (nomark _)) (ds_one (ds_ret (de_ix ix_D opD_rD (dp_o (de_callB (call_maxLD ok.hu rfl) rfl t.n_max (by decide +kernel) (dl_cons (dp_var (i := 3) rfl (.inl rfl)) dl_nil))) (dp_o de_int) (fun _ _ => rfl)))) ds_nil)
  (ds_cons (ds_set (i := 4) sc_zsetting.nd rfl (.inl rfl) (de_lst da_nil))
  (ds_cons (ds_for (passes_of rfl) rfl (di_any (de_var (i := 2) rfl (.inl rfl))) (dg_name (i := 5) sc_zsetting.nd rfl (.inr rfl)) (ds_one (ds_set (i := 4) sc_zsetting.nd rfl (.inl rfl) (de_op op_addD opD_rD (dp_var (i := 4) rfl (.inl rfl)) (dp_o (de_do (do_comp (own := [("_law_row", 7)]) rfl sc_zsetting.nd (di_any (de_ix ix_D opD_rD (dp_var (i := 5) rfl (.inr (.inl rfl))) (dp_o de_int) (fun _ _ => rfl))) (blkOk_by (N := ["_law_name", "_law_layers_here", "_law_makes", "_law_told", "_law_found", "_law_make_here", "_law_layer", "_law_row"]) (sc := defScope (topS 23)) (by decide +kernel)) (by decide) (fun _ _ _ _ _ => (dg_name (i := 7) sc_zsetting.nd rfl (.inl rfl))) (fun _ _ _ _ _ => (dts_one (dt_cmp (op_eqA ok.blk.hu) (dp_o (de_slice (dp_var (i := 7) rfl (.inl rfl)) dpt_none (dpt_some de_int))) (dp_o (de_tup (da_cons de_str (da_cons (de_var (i := 0) rfl (.inr (.inl rfl))) da_nil)))) (nomark _)))) (fun _ _ _ _ _ => (de_tup (da_cons (de_ix ix_D opD_rD (dp_var (i := 5) rfl (.inr (.inl rfl))) (dp_o de_int) (fun _ _ => rfl)) (da_cons (de_ix ix_D opD_rD (dp_var (i := 7) rfl (.inl rfl)) (dp_o de_int) (fun _ _ => rfl)) da_nil)))))))))))
  (ds_cons (ds_if (dt_cmp (op_eqA ok.hu) (dp_var (i := 4) rfl (.inl rfl)) (dp_o (de_lst da_nil)) (nomark _)) (ds_one (ds_ret de_non)) ds_nil)
  (ds_one (ds_ret (de_ix ix_D opD_rD (dp_o (de_callB (call_minLD ok.hu rfl) rfl t.n_min (by decide +kernel) (dl_cons (dp_var (i := 4) rfl (.inl rfl)) dl_nil))) (dp_o de_int) (fun _ _ => rfl)))))))))
theorem sc_setting_of : FnScope ["name", "layers", "makes", "told"] ["name", "layers", "makes"] (defScope (topS 3)) := ⟨rfl, rfl, rfl, by decide +kernel, rfl, by decide +kernel, by decide +kernel⟩
theorem g_setting_of (t : T K mg) (u : TabU base mg t.d_deepest nmT) : FnG P w K mg base 2 t.a_setting_of t.d_setting_of ["name", "layers", "makes"] m_setting_of :=
  fnG_of t.F_setting_of sc_setting_of (t.F_setting_of.binds fun _ _ _ _ _ _ us hl => match us, hl with | [_, _, _], _ => rfl) rfl rfl fun cdv A outer s H E ok =>
  (ds_cons (ds_set (i := 3) sc_setting_of.nd rfl (.inl rfl) (de_call (g_deepest t u) (ok.mono (by decide)) (takes_of rfl rfl rfl rfl) rfl t.G_deepest (da_cons (de_var (i := 0) rfl (.inl rfl)) (da_cons (de_var (i := 1) rfl (.inl rfl)) da_nil))))
  (ds_cons (ds_if (dt_cmp op_isD (dp_var (i := 3) rfl (.inl rfl)) (dp_o de_non) (nomark _)) (ds_one (ds_ret (de_call (g_brought t) (ok.mono (by decide)) (takes_of rfl rfl rfl rfl) rfl t.G_brought (da_cons (de_var (i := 0) rfl (.inl rfl)) (da_cons (de_var (i := 2) rfl (.inl rfl)) da_nil))))) ds_nil)
  (ds_one (ds_retV (i := 3) rfl (.inl rfl)))))
theorem sc_znames : FnScope ["_law_bag_here", "_law_many", "_law_found", "_law_k", "_law_size", "_law_j", "_law_name"] ["_law_bag_here", "_law_many"] (defScope (topS 9)) := ⟨rfl, rfl, rfl, by decide +kernel, rfl, by decide +kernel, by decide +kernel⟩
theorem g_znames (t : T K mg) : FnG P w K mg base 2 t.a_znames t.d_znames ["_law_bag_here", "_law_many"] m_znames :=
  fnG_of t.F_znames sc_znames (t.F_znames.binds fun _ _ _ _ _ _ us hl => match us, hl with | [_, _], _ => rfl) rfl rfl fun cdv A outer s H E ok =>
  (ds_cons (ds_setO (i := 2) sc_znames.nd rfl (.inr rfl) (do_op (fun _ _ _ => repL_l) op_mulN (dp_o (de_lst (da_cons de_str da_nil))) (dp_o (de_callTy call_intD rfl t.n_int (by decide +kernel) (dl_cons (dp_o (de_cmp (op_eqA ok.hu) opD_rD (dp_o (de_callR (g_ztake t) (ok.mono (by decide)) (takes_of rfl rfl rfl rfl) rfl t.G_ztake (dap_head rfl (.inr (.inl rfl)) (da_cons de_int da_nil)))) (dp_o de_int) (nomark _))) dl_nil)))))
  (ds_cons (ds_for (passes_of rfl) rfl (di_rng1 rfl t.n_range (de_var (i := 1) rfl (.inl rfl))) (dg_name (i := 3) sc_znames.nd rfl (.inl rfl)) (ds_cons (ds_set (i := 4) sc_znames.nd rfl (.inl rfl) (de_op op_addD opD_rD (dp_o de_int) (dp_o (de_callR (g_ztake t) (ok.mono (by decide)) (takes_of rfl rfl rfl rfl) rfl t.G_ztake (dap_head rfl (.inr (.inl rfl)) (da_cons (de_ix ix_D opD_rD (dp_o (de_lst (da_cons de_int (da_cons de_int (da_cons de_int da_nil))))) (dp_o (de_callR (g_ztake t) (ok.mono (by decide)) (takes_of rfl rfl rfl rfl) rfl t.G_ztake (dap_head rfl (.inr (.inl rfl)) (da_cons de_int da_nil)))) (fun _ _ => rfl)) da_nil))))))
  (ds_one (ds_app (ps_expr (pe_bm PySem.F.plainAttrs_list PySem.F.slot_list_append PySem.F.type_list_append mt_append (pe_var (i := 2) rfl (.inr (.inl rfl))) (pa_cons (de_meth (T := "str") (.inl rfl) PySem.F.plainAttrs_str PySem.F.slot_str_join PySem.F.type_str_join mt_joinD (dp_o de_str) (dl_cons (dp_o (de_do (do_comp (own := [("_law_j", 5)]) rfl sc_znames.nd (di_rng1 rfl t.n_range (de_var (i := 4) rfl (.inl rfl))) (blkOk_by (N := ["_law_bag_here", "_law_many", "_law_found", "_law_k", "_law_size", "_law_j", "_law_name"]) (sc := defScope (topS 9)) (by decide +kernel)) (by decide) (fun _ _ _ _ _ => (dg_name (i := 5) sc_znames.nd rfl (.inl rfl))) (fun _ _ _ _ _ => dts_nil) (fun _ _ _ _ _ => (de_ix ix_D opD_rD (dp_o de_str) (dp_o (de_callR (g_ztake t) (ok.blk.mono (by decide)) takesN rfl t.G_ztake (dap_head rfl (.inr (.inl rfl)) (da_cons de_int da_nil)))) (fun _ _ => rfl)))))) dl_nil)) pa_nil)))))))
  (ds_cons (ds_setO (i := 2) sc_znames.nd rfl (.inr rfl) (do_op (fun _ _ _ => addL_l) op_addN (dp_var (i := 2) rfl (.inr (.inl rfl))) (dp_o (de_lst (da_cons de_str (da_cons de_str (da_cons de_str (da_cons de_str (da_cons de_str da_nil)))))))))
  (ds_one (ds_ret (de_slice (dp_o (de_do (do_comp (own := [("_law_k", 3), ("_law_name", 6)]) rfl sc_znames.nd (di_enum rfl t.n_enumerate (da_cons (de_var (i := 2) rfl (.inr (.inl rfl))) da_nil)) (blkOk_by (N := ["_law_bag_here", "_law_many", "_law_found", "_law_k", "_law_size", "_law_j", "_law_name"]) (sc := defScope (topS 9)) (by decide +kernel)) (by decide) (fun _ _ _ _ _ => (dg_tup rfl (dgs_cons (dg_name (i := 3) sc_znames.nd rfl (.inl rfl)) (dgs_cons (dg_name (i := 6) sc_znames.nd rfl (.inl rfl)) dgs_nil)))) (fun _ _ _ _ _ => (dts_one (dt_cmp (op_niA ok.blk.hu) (dp_var (i := 6) rfl (.inl rfl)) (dp_o (de_slice (dp_var (i := 2) rfl (.inr (.inl rfl))) dpt_none (dpt_some (de_var (i := 3) rfl (.inl rfl))))) (by rfl)))) (fun _ _ _ _ _ => (de_var (i := 6) rfl (.inl rfl)))))) dpt_none (dpt_some (de_var (i := 1) rfl (.inl rfl)))))))))
theorem sc_znumber : FnScope ["_law_bag_here", "_law_way", "_law_edge"] ["_law_bag_here"] (defScope (topS 10)) := ⟨rfl, rfl, rfl, by decide +kernel, rfl, by decide +kernel, by decide +kernel⟩
theorem g_znumber (t : T K mg) : FnG P w K mg base 2 t.a_znumber t.d_znumber ["_law_bag_here"] m_znumber :=
  fnG_of t.F_znumber sc_znumber (t.F_znumber.binds fun _ _ _ _ _ _ us hl => match us, hl with | [_], _ => rfl) rfl rfl fun cdv A outer s H E ok =>
  (ds_cons (ds_set (i := 1) sc_znumber.nd rfl (.inl rfl) (de_callR (g_ztake t) (ok.mono (by decide)) (takes_of rfl rfl rfl rfl) rfl t.G_ztake (dap_head rfl (.inl rfl) (da_cons de_int da_nil))))
  (ds_cons (ds_set (i := 2) sc_znumber.nd rfl (.inl rfl) (de_ix ix_D opD_rD (dp_o (de_lst (da_cons (de_op op_powD opD_rD (dp_o de_int) (dp_o de_int)) (da_cons (de_neg (dp_o (de_op op_powD opD_rD (dp_o de_int) (dp_o de_int)))) (da_cons de_int (da_cons de_int da_nil)))))) (dp_o (de_callR (g_ztake t) (ok.mono (by decide)) (takes_of rfl rfl rfl rfl) rfl t.G_ztake (dap_head rfl (.inl rfl) (da_cons de_int da_nil)))) (fun _ _ => rfl)))
  (ds_one (ds_ret (de_ix ix_D opD_rD (dp_o (de_lst (da_cons (de_op op_subD opD_rD (dp_o (de_callR (g_ztake t) (ok.mono (by decide)) (takes_of rfl rfl rfl rfl) rfl t.G_ztake (dap_head rfl (.inl rfl) (da_cons de_int da_nil)))) (dp_o de_int)) (da_cons (de_var (i := 2) rfl (.inl rfl)) (da_cons de_int (da_cons (de_op op_subD opD_rD (dp_o (de_callR (g_ztake t) (ok.mono (by decide)) (takes_of rfl rfl rfl rfl) rfl t.G_ztake (dap_head rfl (.inl rfl) (da_cons (de_op op_addD opD_rD (dp_o (de_op op_mulG opD_rD (dp_o de_int) (dp_o (de_op op_powD opD_rD (dp_o de_int) (dp_o de_int))))) (dp_o de_int)) da_nil)))) (dp_o (de_op op_powD opD_rD (dp_o de_int) (dp_o de_int)))) da_nil)))))) (dp_var (i := 1) rfl (.inl rfl)) (fun _ _ => rfl))))))
theorem sc_zshape : FnScope ["_law_bag_here", "_law_way", "_law_least"] ["_law_bag_here"] (defScope (topS 11)) := ⟨rfl, rfl, rfl, by decide +kernel, rfl, by decide +kernel, by decide +kernel⟩
theorem g_zshape (t : T K mg) : FnG P w K mg base 2 t.a_zshape t.d_zshape ["_law_bag_here"] m_zshape :=
  fnG_of t.F_zshape sc_zshape (t.F_zshape.binds fun _ _ _ _ _ _ us hl => match us, hl with | [_], _ => rfl) rfl rfl fun cdv A outer s H E ok =>
  (ds_cons (ds_set (i := 1) sc_zshape.nd rfl (.inl rfl) (de_callR (g_ztake t) (ok.mono (by decide)) (takes_of rfl rfl rfl rfl) rfl t.G_ztake (dap_head rfl (.inl rfl) (da_cons de_int da_nil))))
  (ds_cons (ds_set (i := 2) sc_zshape.nd rfl (.inl rfl) (de_op op_subD opD_rD (dp_o (de_callR (g_ztake t) (ok.mono (by decide)) (takes_of rfl rfl rfl rfl) rfl t.G_ztake (dap_head rfl (.inl rfl) (da_cons de_int da_nil)))) (dp_o de_int)))
  (ds_one (ds_ret (de_ix ix_D opD_rD (dp_o (de_lst (da_cons (de_tup (da_cons (de_neg (dp_o (de_op op_powD opD_rD (dp_o de_int) (dp_o de_int)))) (da_cons (de_op op_powD opD_rD (dp_o de_int) (dp_o de_int)) da_nil))) (da_cons (de_tup (da_cons de_int (da_cons de_int da_nil))) (da_cons (de_tup (da_cons (de_neg (dp_o de_int)) (da_cons de_int da_nil))) (da_cons (de_tup (da_cons (de_var (i := 2) rfl (.inl rfl)) (da_cons (de_op op_addD opD_rD (dp_var (i := 2) rfl (.inl rfl)) (dp_o (de_callR (g_ztake t) (ok.mono (by decide)) (takes_of rfl rfl rfl rfl) rfl t.G_ztake (dap_head rfl (.inl rfl) (da_cons de_int da_nil))))) da_nil))) da_nil)))))) (dp_var (i := 1) rfl (.inl rfl)) (fun _ _ => rfl))))))
theorem sc_zsome : FnScope ["_law_bag_here", "_law_words", "_law_many", "_law_word"] ["_law_bag_here", "_law_words", "_law_many"] (defScope (topS 12)) := ⟨rfl, rfl, rfl, by decide +kernel, rfl, by decide +kernel, by decide +kernel⟩
theorem g_zsome (t : T K mg) : FnG P w K mg base 2 t.a_zsome t.d_zsome ["_law_bag_here", "_law_words", "_law_many"] m_zsome :=
  fnG_of t.F_zsome sc_zsome (t.F_zsome.binds fun _ _ _ _ _ _ us hl => match us, hl with | [_, _, _], _ => rfl) rfl rfl fun cdv A outer s H E ok =>
  (ds_one (ds_ret (de_do (do_comp (own := [("_law_word", 3)]) rfl sc_zsome.nd (di_any (de_var (i := 1) rfl (.inl rfl))) (blkOk_by (N := ["_law_bag_here", "_law_words", "_law_many", "_law_word"]) (sc := defScope (topS 12)) (by decide +kernel)) (by decide) (fun _ _ _ _ _ => (dg_name (i := 3) sc_zsome.nd rfl (.inl rfl))) (fun _ _ _ _ _ => (dts_one (dt_cmp (op_eqA ok.blk.hu) (dp_o (de_callR (g_ztake t) (ok.blk.mono (by decide)) takesN rfl t.G_ztake (dap_head rfl (.inr (.inl rfl)) (da_cons (de_var (i := 2) rfl (.inr (.inl rfl))) da_nil)))) (dp_o de_int) (nomark _)))) (fun _ _ _ _ _ => (de_var (i := 3) rfl (.inl rfl)))))))
theorem sc_zturned : FnScope ["_law_bag_here", "_law_some_here", "_law_found", "_law_one"] ["_law_bag_here", "_law_some_here"] (defScope (topS 19)) := ⟨rfl, rfl, rfl, by decide +kernel, rfl, by decide +kernel, by decide +kernel⟩
theorem g_zturned (t : T K mg) : FnG P w K mg base 2 t.a_zturned t.d_zturned ["_law_bag_here", "_law_some_here"] m_zturned :=
  fnG_of t.F_zturned sc_zturned (t.F_zturned.binds fun _ _ _ _ _ _ us hl => match us, hl with | [_, _], _ => rfl) rfl rfl fun cdv A outer s H E ok =>
  (ds_cons (ds_setO (i := 2) sc_zturned.nd rfl (.inl rfl) (do_lst da_nil))
  (ds_cons (ds_for (passes_of rfl) rfl (di_any (de_var (i := 1) rfl (.inl rfl))) (dg_name (i := 3) sc_zturned.nd rfl (.inl rfl)) (ds_one (ds_ins (v := 2) (ps_expr (pe_bm PySem.F.plainAttrs_list PySem.F.slot_list_insert PySem.F.type_list_insert mt_ins (pe_var (i := 2) rfl (.inl rfl)) (pa_cons (de_callR (g_ztake t) (ok.mono (by decide)) (takes_of rfl rfl rfl rfl) rfl t.G_ztake (dap_head rfl (.inl rfl) (da_cons (de_op op_addD opD_rD (dp_o (de_callB call_lenD rfl t.n_len (by decide +kernel) (dl_cons (dp_var (i := 2) rfl (.inl rfl)) dl_nil))) (dp_o de_int)) da_nil))) (pa_cons (de_var (i := 3) rfl (.inl rfl)) pa_nil)))))))
  (ds_one (ds_retV (i := 2) rfl (.inl rfl)))))
theorem sc_zany : FnScope ["_law_bag_here", "_law_some_here"] ["_law_bag_here", "_law_some_here"] (defScope (topS 20)) := ⟨rfl, rfl, rfl, by decide +kernel, rfl, by decide +kernel, by decide +kernel⟩
theorem g_zany (t : T K mg) : FnG P w K mg base 2 t.a_zany t.d_zany ["_law_bag_here", "_law_some_here"] m_zany :=
  fnG_of t.F_zany sc_zany (t.F_zany.binds fun _ _ _ _ _ _ us hl => match us, hl with | [_, _], _ => rfl) rfl rfl fun cdv A outer s H E ok =>
  (ds_one (ds_ret (de_ix ix_D opD_rD (dp_var (i := 1) rfl (.inl rfl)) (dp_o (de_callR (g_ztake t) (ok.mono (by decide)) (takes_of rfl rfl rfl rfl) rfl t.G_ztake (dap_head rfl (.inl rfl) (da_cons (de_callB call_lenD rfl t.n_len (by decide +kernel) (dl_cons (dp_var (i := 1) rfl (.inl rfl)) dl_nil)) da_nil)))) (fun _ _ => rfl))))
theorem sc_zkept_row : FnScope ["_law_bag_here", "_law_word", "_law_name", "_law_least", "_law_most", "_law_first", "_law_row"] ["_law_bag_here", "_law_word", "_law_name"] (defScope (topS 13)) := ⟨rfl, rfl, rfl, by decide +kernel, rfl, by decide +kernel, by decide +kernel⟩
theorem g_zkept_row (t : T K mg) : FnG P w K mg base 3 t.a_zkept_row t.d_zkept_row ["_law_bag_here", "_law_word", "_law_name"] m_zkept_row :=
  fnG_of t.F_zkept_row sc_zkept_row (t.F_zkept_row.binds fun _ _ _ _ _ _ us hl => match us, hl with | [_, _, _], _ => rfl) rfl rfl fun cdv A outer s H E ok =>
  (ds_cons (ds_asg (de_callR (g_zshape t) (ok.mono (by decide)) (takes_of rfl rfl rfl rfl) rfl t.G_zshape (dap_head rfl (.inl rfl) da_nil)) (dg_tup rfl (dgs_cons (dg_name (i := 3) sc_zkept_row.nd rfl (.inl rfl)) (dgs_cons (dg_name (i := 4) sc_zkept_row.nd rfl (.inl rfl)) dgs_nil))))
  (ds_cons (ds_set (i := 5) sc_zkept_row.nd rfl (.inl rfl) (de_op op_addD opD_rD (dp_var (i := 3) rfl (.inl rfl)) (dp_o (de_callR (g_ztake t) (ok.mono (by decide)) (takes_of rfl rfl rfl rfl) rfl t.G_ztake (dap_head rfl (.inl rfl) (da_cons (de_op op_addD opD_rD (dp_o (de_callB (call_minD rfl) rfl t.n_min (by decide +kernel) (dl_cons (dp_o (de_op op_subD opD_rD (dp_var (i := 4) rfl (.inl rfl)) (dp_var (i := 3) rfl (.inl rfl)))) (dl_cons (dp_o de_int) dl_nil)))) (dp_o de_int)) da_nil))))))
  (ds_cons (ds_set (i := 6) sc_zkept_row.nd rfl (.inl rfl) (de_tup (da_cons (de_var (i := 1) rfl (.inl rfl)) (da_cons (de_var (i := 2) rfl (.inl rfl)) (da_cons (de_var (i := 3) rfl (.inl rfl)) (da_cons (de_var (i := 4) rfl (.inl rfl)) (da_cons (de_var (i := 5) rfl (.inl rfl)) da_nil)))))))
  (ds_cons (ds_if (dt_cmp (op_eqA ok.hu) (dp_var (i := 1) rfl (.inl rfl)) (dp_o de_str) (nomark _)) (ds_one (ds_set (i := 6) sc_zkept_row.nd rfl (.inl rfl) (de_op op_addD opD_rD (dp_var (i := 6) rfl (.inl rfl)) (dp_o (de_tup (da_cons (de_ix ix_D opD_rD (dp_o (de_lst (da_cons de_str (da_cons de_str (da_cons de_str da_nil))))) (dp_o (de_callR (g_ztake t) (ok.mono (by decide)) (takes_of rfl rfl rfl rfl) rfl t.G_ztake (dap_head rfl (.inl rfl) (da_cons de_int da_nil)))) (fun _ _ => rfl)) da_nil)))))) ds_nil)
  (ds_one (ds_retV (i := 6) rfl (.inl rfl)))))))
theorem sc_zhook_row : FnScope ["_law_bag_here", "_law_hook", "_law_part", "_law_parts", "_law_others", "_law_befores", "_law_afters", "_law_one"] ["_law_bag_here", "_law_hook", "_law_part", "_law_parts"] (defScope (topS 14)) := ⟨rfl, rfl, rfl, by decide +kernel, rfl, by decide +kernel, by decide +kernel⟩
theorem g_zhook_row (t : T K mg) : FnG P w K mg base 3 t.a_zhook_row t.d_zhook_row ["_law_bag_here", "_law_hook", "_law_part", "_law_parts"] m_zhook_row :=
  fnG_of t.F_zhook_row sc_zhook_row (t.F_zhook_row.binds fun _ _ _ _ _ _ us hl => match us, hl with | [_, _, _, _], _ => rfl) rfl rfl fun cdv A outer s H E ok =>
  (ds_cons (ds_setLc (i := 4) (own := [("_law_one", 7)]) rfl sc_zhook_row.nd rfl rfl rfl rfl (by decide +kernel) (di_any (de_do (do_sorted ok.hu rfl t.n_sorted (by decide +kernel) (dp_var (i := 3) rfl (.inl rfl))))) (blkOk_by (N := ["_law_bag_here", "_law_hook", "_law_part", "_law_parts", "_law_others", "_law_befores", "_law_afters", "_law_one"]) (sc := defScope (topS 14)) (by decide +kernel)) (by decide) (fun _ _ _ _ _ => (dg_name (i := 7) sc_zhook_row.nd rfl (.inl rfl))) (fun _ _ _ _ _ => (dts_one (dt_cmp (op_neA ok.blk.hu) (dp_var (i := 7) rfl (.inl rfl)) (dp_var (i := 2) rfl (.inr (.inl rfl))) (nomark _)))) (fun _ _ _ _ _ => (de_var (i := 7) rfl (.inl rfl))))
  (ds_cons (ds_set (i := 5) sc_zhook_row.nd rfl (.inr rfl) (de_callR (g_zsome t) (ok.mono (by decide)) (takes_of rfl rfl rfl rfl) rfl t.G_zsome (dap_head rfl (.inl rfl) (da_cons (de_var (i := 4) rfl (.inl rfl)) (da_cons de_int da_nil)))))
  (ds_cons (ds_set (i := 6) sc_zhook_row.nd rfl (.inl rfl) (de_callR (g_zsome t) (ok.mono (by decide)) (takes_of rfl rfl rfl rfl) rfl t.G_zsome (dap_head rfl (.inl rfl) (da_cons (de_do (do_comp (own := [("_law_one", 7)]) rfl sc_zhook_row.nd (di_any (de_var (i := 4) rfl (.inl rfl))) (blkOk_by (N := ["_law_bag_here", "_law_hook", "_law_part", "_law_parts", "_law_others", "_law_befores", "_law_afters", "_law_one"]) (sc := defScope (topS 14)) (by decide +kernel)) (by decide) (fun _ _ _ _ _ => (dg_name (i := 7) sc_zhook_row.nd rfl (.inl rfl))) (fun _ _ _ _ _ => (dts_one (dt_cmp (op_niA ok.blk.hu) (dp_var (i := 7) rfl (.inl rfl)) (dp_var (i := 5) rfl (.inr (.inl rfl))) (by rfl)))) (fun _ _ _ _ _ => (de_var (i := 7) rfl (.inl rfl))))) (da_cons de_int da_nil)))))
  (ds_one (ds_ret (de_op op_addD opD_rD (dp_o (de_tup (da_cons de_str (da_cons (de_var (i := 1) rfl (.inl rfl)) (da_cons (de_callR (g_ztake t) (ok.mono (by decide)) (takes_of rfl rfl rfl rfl) rfl t.G_ztake (dap_head rfl (.inl rfl) (da_cons de_int da_nil))) (da_cons (de_callTy call_tupleD rfl t.n_tuple (by decide +kernel) (dl_cons (dp_var (i := 5) rfl (.inr (.inl rfl))) dl_nil)) (da_cons (de_callTy call_tupleD rfl t.n_tuple (by decide +kernel) (dl_cons (dp_var (i := 6) rfl (.inl rfl)) dl_nil)) da_nil))))))) (dp_o (de_callR (g_zshape t) (ok.mono (by decide)) (takes_of rfl rfl rfl rfl) rfl t.G_zshape (dap_head rfl (.inl rfl) da_nil)))))))))
theorem sc_zstep : FnScope ["_law_bag_here", "_law_at", "_law_many", "_law_way", "_law_word"] ["_law_bag_here", "_law_at", "_law_many"] (defScope (topS 16)) := ⟨rfl, rfl, rfl, by decide +kernel, rfl, by decide +kernel, by decide +kernel⟩
theorem g_zstep (t : T K mg) : FnG P w K mg base 3 t.a_zstep t.d_zstep ["_law_bag_here", "_law_at", "_law_many"] m_zstep :=
  fnG_of t.F_zstep sc_zstep (t.F_zstep.binds fun _ _ _ _ _ _ us hl => match us, hl with | [_, _, _], _ => rfl) rfl rfl fun cdv A outer s H E ok =>
  (ds_cons (ds_set (i := 3) sc_zstep.nd rfl (.inl rfl) (de_callR (g_ztake t) (ok.mono (by decide)) (takes_of rfl rfl rfl rfl) rfl t.G_ztake (dap_head rfl (.inl rfl) (da_cons de_int da_nil))))
  (ds_cons (ds_if (dt_cmp (op_ltA ok.hu) (dp_var (i := 3) rfl (.inl rfl)) (dp_o de_int) (nomark _)) (ds_one (ds_ret (de_tup (da_cons (de_ix ix_D opD_rD (dp_o (de_lst (da_cons de_str (da_cons de_str (da_cons de_str da_nil))))) (dp_var (i := 3) rfl (.inl rfl)) (fun _ _ => rfl)) (da_cons (de_callR (g_znumber t) (ok.mono (by decide)) (takes_of rfl rfl rfl rfl) rfl t.G_znumber (dap_head rfl (.inl rfl) da_nil)) da_nil))))) ds_nil)
  (ds_cons (ds_if (dt_cmp (op_ltA ok.hu) (dp_var (i := 3) rfl (.inl rfl)) (dp_o de_int) (nomark _)) (ds_cons (ds_set (i := 4) sc_zstep.nd rfl (.inl rfl) (de_ix ix_D opD_rD (dp_o (de_lst (da_cons de_str (da_cons de_str (da_cons de_str (da_cons de_str (da_cons de_str (da_cons de_str (da_cons de_str (da_cons de_str da_nil)))))))))) (dp_o (de_op op_subD opD_rD (dp_var (i := 3) rfl (.inl rfl)) (dp_o de_int))) (fun _ _ => rfl)))
  (ds_one (ds_ret (de_tup (da_cons (de_var (i := 4) rfl (.inl rfl)) (da_cons (de_ix ix_D opD_rD (dp_o (de_lst (da_cons de_str (da_cons de_str (da_cons de_str (da_cons de_str da_nil)))))) (dp_o (de_callR (g_ztake t) (ok.mono (by decide)) (takes_of rfl rfl rfl rfl) rfl t.G_ztake (dap_head rfl (.inl rfl) (da_cons de_int da_nil)))) (fun _ _ => rfl)) da_nil)))))) ds_nil)
  (ds_cons (ds_if (dt_w (dw_and (dt_cmp (op_eqA ok.hu) (dp_var (i := 3) rfl (.inl rfl)) (dp_o de_int) (nomark _)) (dw_and1 (dt_cmp (op_ltA ok.hu) (dp_o (de_op op_addD opD_rD (dp_var (i := 1) rfl (.inl rfl)) (dp_o de_int))) (dp_var (i := 2) rfl (.inl rfl)) (nomark _))))) (ds_one (ds_ret (de_tup (da_cons de_str (da_cons (de_op op_addD opD_rD (dp_o de_int) (dp_o (de_callR (g_ztake t) (ok.mono (by decide)) (takes_of rfl rfl rfl rfl) rfl t.G_ztake (dap_head rfl (.inl rfl) (da_cons (de_op op_subD opD_rD (dp_o (de_op op_subD opD_rD (dp_var (i := 2) rfl (.inl rfl)) (dp_var (i := 1) rfl (.inl rfl)))) (dp_o de_int)) da_nil))))) da_nil))))) ds_nil)
  (ds_cons (ds_if (dt_w (dw_and (dt_cmp (op_eqA ok.hu) (dp_var (i := 3) rfl (.inl rfl)) (dp_o de_int) (nomark _)) (dw_and (dt_cmp (op_gtA ok.hu) (dp_var (i := 1) rfl (.inl rfl)) (dp_o de_int) (nomark _)) (dw_and1 (dt_cmp (op_eqA ok.hu) (dp_o (de_callR (g_ztake t) (ok.mono (by decide)) (takes_of rfl rfl rfl rfl) rfl t.G_ztake (dap_head rfl (.inl rfl) (da_cons de_int da_nil)))) (dp_o de_int) (nomark _)))))) (ds_one (ds_ret (de_tup (da_cons de_str (da_cons (de_op op_addD opD_rD (dp_o de_int) (dp_o (de_callR (g_ztake t) (ok.mono (by decide)) (takes_of rfl rfl rfl rfl) rfl t.G_ztake (dap_head rfl (.inl rfl) (da_cons (de_var (i := 1) rfl (.inl rfl)) da_nil))))) da_nil))))) ds_nil)
  (ds_cons (ds_if (dt_w (dw_and (dt_cmp (op_eqA ok.hu) (dp_var (i := 3) rfl (.inl rfl)) (dp_o de_int) (nomark _)) (dw_and1 (dt_cmp (op_eqA ok.hu) (dp_o (de_callR (g_ztake t) (ok.mono (by decide)) (takes_of rfl rfl rfl rfl) rfl t.G_ztake (dap_head rfl (.inl rfl) (da_cons de_int da_nil)))) (dp_o de_int) (nomark _))))) (ds_one (ds_ret (de_tup (da_cons de_str da_nil)))) ds_nil)
  (ds_one (ds_ret (de_tup (da_cons de_str (da_cons (de_op op_addD opD_rD (dp_o de_int) (dp_o (de_callR (g_ztake t) (ok.mono (by decide)) (takes_of rfl rfl rfl rfl) rfl t.G_ztake (dap_head rfl (.inl rfl) (da_cons de_int da_nil))))) da_nil)))))))))))
theorem sc_zlayers : FnScope ["_law_bag_here", "_law_names_here", "_law_found", "_law_k", "_law_depth", "_law_name", "_law_one"] ["_law_bag_here", "_law_names_here"] (defScope (topS 21)) := ⟨rfl, rfl, rfl, by decide +kernel, rfl, by decide +kernel, by decide +kernel⟩
theorem g_zlayers (t : T K mg) : FnG P w K mg base 3 t.a_zlayers t.d_zlayers ["_law_bag_here", "_law_names_here"] m_zlayers :=
  fnG_of t.F_zlayers sc_zlayers (t.F_zlayers.binds fun _ _ _ _ _ _ us hl => match us, hl with | [_, _], _ => rfl) rfl rfl fun cdv A outer s H E ok =>
  (ds_cons (ds_setO (i := 2) sc_zlayers.nd rfl (.inl rfl) (do_lst da_nil))
  (ds_cons (ds_for (passes_of rfl) rfl (di_rng1 rfl t.n_range (de_callR (g_ztake t) (ok.mono (by decide)) (takes_of rfl rfl rfl rfl) rfl t.G_ztake (dap_head rfl (.inl rfl) (da_cons (de_ix ix_D opD_rD (dp_o (de_lst (da_cons de_int (da_cons de_int da_nil)))) (dp_o (de_callR (g_ztake t) (ok.mono (by decide)) (takes_of rfl rfl rfl rfl) rfl t.G_ztake (dap_head rfl (.inl rfl) (da_cons de_int da_nil)))) (fun _ _ => rfl)) da_nil)))) (dg_name (i := 3) sc_zlayers.nd rfl (.inl rfl)) (ds_cons (ds_asg (de_tup (da_cons (de_op op_addD opD_rD (dp_o de_int) (dp_o (de_callR (g_ztake t) (ok.mono (by decide)) (takes_of rfl rfl rfl rfl) rfl t.G_ztake (dap_head rfl (.inl rfl) (da_cons de_int da_nil))))) (da_cons (de_callR (g_zany t) (ok.mono (by decide)) (takes_of rfl rfl rfl rfl) rfl t.G_zany (dap_head rfl (.inl rfl) (da_cons (de_var (i := 1) rfl (.inl rfl)) da_nil))) da_nil))) (dg_tup rfl (dgs_cons (dg_name (i := 4) sc_zlayers.nd rfl (.inr rfl)) (dgs_cons (dg_name (i := 5) sc_zlayers.nd rfl (.inr rfl)) dgs_nil))))
  (ds_one (ds_if (dt_cmp (op_eqA ok.hu) (dp_o (de_do (do_compV (v := 2) (own := [("_law_one", 6)]) rfl sc_zlayers.nd rfl (.inl rfl) (blkOk_by (N := ["_law_bag_here", "_law_names_here", "_law_found", "_law_k", "_law_depth", "_law_name", "_law_one"]) (sc := defScope (topS 21)) (by decide +kernel)) (by decide) (fun _ _ _ _ _ => (dg_name (i := 6) sc_zlayers.nd rfl (.inl rfl))) (fun _ _ _ _ _ => (dts_one (dt_cmp (op_eqA ok.blk.hu) (dp_o (de_slice (dp_var (i := 6) rfl (.inl rfl)) dpt_none (dpt_some de_int))) (dp_o (de_tup (da_cons (de_var (i := 4) rfl (.inr (.inl rfl))) (da_cons (de_var (i := 5) rfl (.inr (.inl rfl))) da_nil)))) (nomark _)))) (fun _ _ _ _ _ => (de_var (i := 6) rfl (.inl rfl)))))) (dp_o (de_lst da_nil)) (nomark _)) (ds_one (ds_app (ps_expr (pe_bm PySem.F.plainAttrs_list PySem.F.slot_list_append PySem.F.type_list_append mt_append (pe_var (i := 2) rfl (.inl rfl)) (pa_cons (de_tup (da_cons (de_var (i := 4) rfl (.inr (.inl rfl))) (da_cons (de_var (i := 5) rfl (.inr (.inl rfl))) (da_cons (de_callR (g_znumber t) (ok.mono (by decide)) (takes_of rfl rfl rfl rfl) rfl t.G_znumber (dap_head rfl (.inl rfl) da_nil)) da_nil)))) pa_nil))))) ds_nil))))
  (ds_one (ds_retV (i := 2) rfl (.inl rfl)))))
theorem sc_zface : FnScope ["_law_bag_here", "_law_part", "_law_parts", "_law_words", "_law_calls", "_law_asks", "_law_front", "_law_hooks", "_law_rights", "_law_word", "_law_back", "_law_call", "_law_hook", "_law_event", "_law_what", "_law_name"] ["_law_bag_here", "_law_part", "_law_parts"] (defScope (topS 15)) := ⟨rfl, rfl, rfl, by decide +kernel, rfl, by decide +kernel, by decide +kernel⟩
theorem g_zface (t : T K mg) : FnG P w K mg base 4 t.a_zface t.d_zface ["_law_bag_here", "_law_part", "_law_parts"] m_zface :=
  fnG_of t.F_zface sc_zface (t.F_zface.binds fun _ _ _ _ _ _ us hl => match us, hl with | [_, _, _], _ => rfl) rfl rfl fun cdv A outer s H E ok =>
  (ds_cons (ds_set (i := 3) sc_zface.nd rfl (.inl rfl) (de_lst (da_cons de_str (da_cons de_str (da_cons de_str da_nil)))))
  (ds_cons (ds_set (i := 4) sc_zface.nd rfl (.inr rfl) (de_callR (g_zsome t) (ok.mono (by decide)) (takes_of rfl rfl rfl rfl) rfl t.G_zsome (dap_head rfl (.inr (.inl rfl)) (da_cons (de_var (i := 3) rfl (.inl rfl)) (da_cons de_int da_nil)))))
  (ds_cons (ds_set (i := 5) sc_zface.nd rfl (.inl rfl) (de_callR (g_zsome t) (ok.mono (by decide)) (takes_of rfl rfl rfl rfl) rfl t.G_zsome (dap_head rfl (.inr (.inl rfl)) (da_cons (de_do (do_comp (own := [("_law_word", 9)]) rfl sc_zface.nd (di_any (de_var (i := 3) rfl (.inl rfl))) (blkOk_by (N := ["_law_bag_here", "_law_part", "_law_parts", "_law_words", "_law_calls", "_law_asks", "_law_front", "_law_hooks", "_law_rights", "_law_word", "_law_back", "_law_call", "_law_hook", "_law_event", "_law_what", "_law_name"]) (sc := defScope (topS 15)) (by decide +kernel)) (by decide) (fun _ _ _ _ _ => (dg_name (i := 9) sc_zface.nd rfl (.inl rfl))) (fun _ _ _ _ _ => (dts_one (dt_cmp (op_niA ok.blk.hu) (dp_var (i := 9) rfl (.inl rfl)) (dp_var (i := 4) rfl (.inr (.inl rfl))) (by rfl)))) (fun _ _ _ _ _ => (de_var (i := 9) rfl (.inl rfl))))) (da_cons de_int da_nil)))))
  (ds_cons (ds_setLc (i := 6) (own := [("_law_call", 11)]) rfl sc_zface.nd rfl rfl rfl rfl (by decide +kernel) (di_any (de_var (i := 4) rfl (.inr (.inl rfl)))) (blkOk_by (N := ["_law_bag_here", "_law_part", "_law_parts", "_law_words", "_law_calls", "_law_asks", "_law_front", "_law_hooks", "_law_rights", "_law_word", "_law_back", "_law_call", "_law_hook", "_law_event", "_law_what", "_law_name"]) (sc := defScope (topS 15)) (by decide +kernel)) (by decide) (fun _ _ _ _ _ => (dg_name (i := 11) sc_zface.nd rfl (.inl rfl))) (fun _ _ _ _ _ => dts_nil) (fun _ _ _ _ _ => (de_op op_addD opD_rD (dp_o (de_tup (da_cons de_str (da_cons (de_var (i := 11) rfl (.inl rfl)) (da_cons (de_tup (da_cons (de_callR (g_ztake t) (ok.blk.mono (by decide)) takesN rfl t.G_ztake (dap_head rfl (.inr (.inl rfl)) (da_cons de_int da_nil))) (da_cons (de_callR (g_ztake t) (ok.blk.mono (by decide)) takesN rfl t.G_ztake (dap_head rfl (.inr (.inl rfl)) (da_cons de_int da_nil))) da_nil))) da_nil))))) (dp_o (de_callR (g_zshape t) (ok.blk.mono (by decide)) takesN rfl t.G_zshape (dap_head rfl (.inr (.inl rfl)) da_nil))))))
  (ds_cons (ds_set (i := 6) sc_zface.nd rfl (.inl rfl) (de_op op_addD opD_rD (dp_var (i := 6) rfl (.inl rfl)) (dp_o (de_do (do_comp (own := [("_law_call", 11)]) rfl sc_zface.nd (di_any (de_var (i := 5) rfl (.inl rfl))) (blkOk_by (N := ["_law_bag_here", "_law_part", "_law_parts", "_law_words", "_law_calls", "_law_asks", "_law_front", "_law_hooks", "_law_rights", "_law_word", "_law_back", "_law_call", "_law_hook", "_law_event", "_law_what", "_law_name"]) (sc := defScope (topS 15)) (by decide +kernel)) (by decide) (fun _ _ _ _ _ => (dg_name (i := 11) sc_zface.nd rfl (.inl rfl))) (fun _ _ _ _ _ => dts_nil) (fun _ _ _ _ _ => (de_tup (da_cons de_str (da_cons (de_var (i := 11) rfl (.inl rfl)) (da_cons (de_tup (da_cons (de_callR (g_ztake t) (ok.blk.mono (by decide)) takesN rfl t.G_ztake (dap_head rfl (.inr (.inl rfl)) (da_cons de_int da_nil))) (da_cons (de_callR (g_ztake t) (ok.blk.mono (by decide)) takesN rfl t.G_ztake (dap_head rfl (.inr (.inl rfl)) (da_cons de_int da_nil))) da_nil))) da_nil))))))))))
  (ds_cons (ds_setLc (i := 7) (own := [("_law_hook", 12)]) rfl sc_zface.nd rfl rfl rfl rfl (by decide +kernel) (di_any (de_lst (da_cons de_str (da_cons de_str (da_cons de_str da_nil))))) (blkOk_by (N := ["_law_bag_here", "_law_part", "_law_parts", "_law_words", "_law_calls", "_law_asks", "_law_front", "_law_hooks", "_law_rights", "_law_word", "_law_back", "_law_call", "_law_hook", "_law_event", "_law_what", "_law_name"]) (sc := defScope (topS 15)) (by decide +kernel)) (by decide) (fun _ _ _ _ _ => (dg_name (i := 12) sc_zface.nd rfl (.inl rfl))) (fun _ _ _ _ _ => (dts_one (dt_cmp (op_gtA ok.blk.hu) (dp_o (de_callR (g_ztake t) (ok.blk.mono (by decide)) takesN rfl t.G_ztake (dap_head rfl (.inr (.inl rfl)) (da_cons de_int da_nil)))) (dp_o (de_op op_mulG opD_rD (dp_o de_int) (dp_o (de_callTy call_intD rfl t.n_int (by decide +kernel) (dl_cons (dp_o (de_cmp (op_eqA ok.blk.hu) opD_rD (dp_var (i := 12) rfl (.inl rfl)) (dp_o de_str) (nomark _))) dl_nil))))) (nomark _)))) (fun _ _ _ _ _ => (de_var (i := 12) rfl (.inl rfl))))
  (ds_cons (ds_set (i := 6) sc_zface.nd rfl (.inl rfl) (de_op op_addD opD_rD (dp_var (i := 6) rfl (.inl rfl)) (dp_o (de_do (do_comp (own := [("_law_hook", 12)]) rfl sc_zface.nd (di_any (de_var (i := 7) rfl (.inl rfl))) (blkOk_by (N := ["_law_bag_here", "_law_part", "_law_parts", "_law_words", "_law_calls", "_law_asks", "_law_front", "_law_hooks", "_law_rights", "_law_word", "_law_back", "_law_call", "_law_hook", "_law_event", "_law_what", "_law_name"]) (sc := defScope (topS 15)) (by decide +kernel)) (by decide) (fun _ _ _ _ _ => (dg_name (i := 12) sc_zface.nd rfl (.inl rfl))) (fun _ _ _ _ _ => dts_nil) (fun _ _ _ _ _ => (de_callR (g_zhook_row t) (ok.blk.mono (by decide)) takesN rfl t.G_zhook_row (dap_head rfl (.inr (.inl rfl)) (da_cons (de_var (i := 12) rfl (.inl rfl)) (da_cons (de_var (i := 1) rfl (.inr (.inl rfl))) (da_cons (de_var (i := 2) rfl (.inr (.inl rfl))) da_nil)))))))))))
  (ds_cons (ds_set (i := 6) sc_zface.nd rfl (.inl rfl) (de_op op_addD opD_rD (dp_var (i := 6) rfl (.inl rfl)) (dp_o (de_do (do_comp (own := [("_law_event", 13)]) rfl sc_zface.nd (di_any (de_callR (g_zsome t) (ok.mono (by decide)) (takes_of rfl rfl rfl rfl) rfl t.G_zsome (dap_head rfl (.inr (.inl rfl)) (da_cons (de_lst (da_cons de_str (da_cons de_str da_nil))) (da_cons de_int da_nil))))) (blkOk_by (N := ["_law_bag_here", "_law_part", "_law_parts", "_law_words", "_law_calls", "_law_asks", "_law_front", "_law_hooks", "_law_rights", "_law_word", "_law_back", "_law_call", "_law_hook", "_law_event", "_law_what", "_law_name"]) (sc := defScope (topS 15)) (by decide +kernel)) (by decide) (fun _ _ _ _ _ => (dg_name (i := 13) sc_zface.nd rfl (.inl rfl))) (fun _ _ _ _ _ => dts_nil) (fun _ _ _ _ _ => (de_tup (da_cons de_str (da_cons (de_var (i := 13) rfl (.inl rfl)) (da_cons (de_callR (g_ztake t) (ok.blk.mono (by decide)) takesN rfl t.G_ztake (dap_head rfl (.inr (.inl rfl)) (da_cons de_int da_nil))) da_nil))))))))))
  (ds_cons (ds_set (i := 8) sc_zface.nd rfl (.inl rfl) (de_lst da_nil))
  (ds_cons (ds_for (passes_of rfl) rfl (di_any (de_lst (da_cons de_str (da_cons de_str (da_cons de_str (da_cons de_str (da_cons de_str da_nil))))))) (dg_name (i := 9) sc_zface.nd rfl (.inr rfl)) (ds_one (ds_set (i := 8) sc_zface.nd rfl (.inl rfl) (de_op op_addD opD_rD (dp_var (i := 8) rfl (.inl rfl)) (dp_o (de_do (do_comp (own := [("_law_what", 14)]) rfl sc_zface.nd (di_any (de_callR (g_zsome t) (ok.mono (by decide)) (takes_of rfl rfl rfl rfl) rfl t.G_zsome (dap_head rfl (.inr (.inl rfl)) (da_cons (de_lst (da_cons de_str (da_cons de_str da_nil))) (da_cons de_int da_nil))))) (blkOk_by (N := ["_law_bag_here", "_law_part", "_law_parts", "_law_words", "_law_calls", "_law_asks", "_law_front", "_law_hooks", "_law_rights", "_law_word", "_law_back", "_law_call", "_law_hook", "_law_event", "_law_what", "_law_name"]) (sc := defScope (topS 15)) (by decide +kernel)) (by decide) (fun _ _ _ _ _ => (dg_name (i := 14) sc_zface.nd rfl (.inl rfl))) (fun _ _ _ _ _ => dts_nil) (fun _ _ _ _ _ => (de_tup (da_cons de_str (da_cons (de_var (i := 9) rfl (.inr (.inl rfl))) (da_cons (de_var (i := 14) rfl (.inl rfl)) (da_cons (de_op op_addD opD_rD (dp_o de_int) (dp_o (de_callR (g_ztake t) (ok.blk.mono (by decide)) takesN rfl t.G_ztake (dap_head rfl (.inr (.inl rfl)) (da_cons de_int da_nil))))) da_nil)))))))))))))
  (ds_cons (ds_setLc (i := 10) (own := [("_law_name", 15)]) rfl sc_zface.nd rfl rfl rfl rfl (by decide +kernel) (di_any (de_callR (g_zsome t) (ok.mono (by decide)) (takes_of rfl rfl rfl rfl) rfl t.G_zsome (dap_head rfl (.inr (.inl rfl)) (da_cons (de_lst (da_cons de_str (da_cons de_str da_nil))) (da_cons de_int da_nil))))) (blkOk_by (N := ["_law_bag_here", "_law_part", "_law_parts", "_law_words", "_law_calls", "_law_asks", "_law_front", "_law_hooks", "_law_rights", "_law_word", "_law_back", "_law_call", "_law_hook", "_law_event", "_law_what", "_law_name"]) (sc := defScope (topS 15)) (by decide +kernel)) (by decide) (fun _ _ _ _ _ => (dg_name (i := 15) sc_zface.nd rfl (.inl rfl))) (fun _ _ _ _ _ => dts_nil) (fun _ _ _ _ _ => (de_tup (da_cons de_str (da_cons (de_var (i := 15) rfl (.inl rfl)) (da_cons (de_callR (g_znumber t) (ok.blk.mono (by decide)) takesN rfl t.G_znumber (dap_head rfl (.inr (.inl rfl)) da_nil)) da_nil))))))
  (ds_cons (ds_set (i := 10) sc_zface.nd rfl (.inl rfl) (de_op op_addD opD_rD (dp_var (i := 10) rfl (.inl rfl)) (dp_o (de_do (do_comp (own := [("_law_name", 15)]) rfl sc_zface.nd (di_any (de_lst (da_cons de_str (da_cons de_str da_nil)))) (blkOk_by (N := ["_law_bag_here", "_law_part", "_law_parts", "_law_words", "_law_calls", "_law_asks", "_law_front", "_law_hooks", "_law_rights", "_law_word", "_law_back", "_law_call", "_law_hook", "_law_event", "_law_what", "_law_name"]) (sc := defScope (topS 15)) (by decide +kernel)) (by decide) (fun _ _ _ _ _ => (dg_name (i := 15) sc_zface.nd rfl (.inl rfl))) (fun _ _ _ _ _ => (dts_one (dt_cmp (op_gtA ok.blk.hu) (dp_o (de_callR (g_ztake t) (ok.blk.mono (by decide)) takesN rfl t.G_ztake (dap_head rfl (.inr (.inl rfl)) (da_cons de_int da_nil)))) (dp_o de_int) (nomark _)))) (fun _ _ _ _ _ => (de_callR (g_zkept_row t) (ok.blk.mono (by decide)) takesN rfl t.G_zkept_row (dap_head rfl (.inr (.inl rfl)) (da_cons de_str (da_cons (de_var (i := 15) rfl (.inl rfl)) da_nil))))))))))
  (ds_cons (ds_set (i := 10) sc_zface.nd rfl (.inl rfl) (de_op op_addD opD_rD (dp_var (i := 10) rfl (.inl rfl)) (dp_o (de_do (do_comp (own := [("_law_name", 15)]) rfl sc_zface.nd (di_any (de_callR (g_zsome t) (ok.mono (by decide)) (takes_of rfl rfl rfl rfl) rfl t.G_zsome (dap_head rfl (.inr (.inl rfl)) (da_cons (de_lst (da_cons de_str (da_cons de_str da_nil))) (da_cons de_int da_nil))))) (blkOk_by (N := ["_law_bag_here", "_law_part", "_law_parts", "_law_words", "_law_calls", "_law_asks", "_law_front", "_law_hooks", "_law_rights", "_law_word", "_law_back", "_law_call", "_law_hook", "_law_event", "_law_what", "_law_name"]) (sc := defScope (topS 15)) (by decide +kernel)) (by decide) (fun _ _ _ _ _ => (dg_name (i := 15) sc_zface.nd rfl (.inl rfl))) (fun _ _ _ _ _ => dts_nil) (fun _ _ _ _ _ => (de_callR (g_zkept_row t) (ok.blk.mono (by decide)) takesN rfl t.G_zkept_row (dap_head rfl (.inr (.inl rfl)) (da_cons de_str (da_cons (de_var (i := 15) rfl (.inl rfl)) da_nil))))))))))
  (ds_cons (ds_set (i := 10) sc_zface.nd rfl (.inl rfl) (de_op op_addD opD_rD (dp_var (i := 10) rfl (.inl rfl)) (dp_o (de_op op_mulG opD_rD (dp_o (de_lst (da_cons (de_tup (da_cons de_str (da_cons (de_op op_addD opD_rD (dp_o de_int) (dp_o (de_callR (g_ztake t) (ok.mono (by decide)) (takes_of rfl rfl rfl rfl) rfl t.G_ztake (dap_head rfl (.inr (.inl rfl)) (da_cons de_int da_nil))))) da_nil))) da_nil))) (dp_o (de_callTy call_intD rfl t.n_int (by decide +kernel) (dl_cons (dp_o (de_cmp (op_eqA ok.hu) opD_rD (dp_o (de_callR (g_ztake t) (ok.mono (by decide)) (takes_of rfl rfl rfl rfl) rfl t.G_ztake (dap_head rfl (.inr (.inl rfl)) (da_cons de_int da_nil)))) (dp_o de_int) (nomark _))) dl_nil)))))))
  (ds_one (ds_ret (de_callTy call_tupleD rfl t.n_tuple (by decide +kernel) (dl_cons (dp_o (de_op op_addD opD_rD (dp_o (de_op op_addD opD_rD (dp_var (i := 6) rfl (.inl rfl)) (dp_o (de_slice (dp_var (i := 8) rfl (.inl rfl)) dpt_none (dpt_some (de_op op_subD opD_rD (dp_o (de_op op_subD opD_rD (dp_o de_int) (dp_o (de_callB call_lenD rfl t.n_len (by decide +kernel) (dl_cons (dp_var (i := 6) rfl (.inl rfl)) dl_nil))))) (dp_o (de_callB call_lenD rfl t.n_len (by decide +kernel) (dl_cons (dp_var (i := 10) rfl (.inl rfl)) dl_nil))))))))) (dp_var (i := 10) rfl (.inl rfl)))) dl_nil))))))))))))))))))
theorem sc_zbody : FnScope ["_law_bag_here", "_law_face_here", "_law_names_here", "_law_found", "_law_row", "_law_many", "_law_steps", "_law_stock", "_law_at"] ["_law_bag_here", "_law_face_here", "_law_names_here"] (defScope (topS 17)) := ⟨rfl, rfl, rfl, by decide +kernel, rfl, by decide +kernel, by decide +kernel⟩
theorem g_zbody (t : T K mg) : FnG P w K mg base 4 t.a_zbody t.d_zbody ["_law_bag_here", "_law_face_here", "_law_names_here"] m_zbody :=
  fnG_of t.F_zbody sc_zbody (t.F_zbody.binds fun _ _ _ _ _ _ us hl => match us, hl with | [_, _, _], _ => rfl) rfl rfl fun cdv A outer s H E ok =>
  (ds_cons (ds_setO (i := 3) sc_zbody.nd rfl (.inl rfl) (do_lst da_nil))
  (ds_cons (ds_for (passes_of rfl) rfl (di_any (de_var (i := 1) rfl (.inl rfl))) (dg_name (i := 4) sc_zbody.nd rfl (.inl rfl)) (ds_one (ds_if (dt_cmp (op_inA ok.hu) (dp_o (de_ix ix_D opD_rD (dp_var (i := 4) rfl (.inl rfl)) (dp_o de_int) (fun _ _ => rfl))) (dp_o (de_tup (da_cons de_str (da_cons de_str (da_cons de_str da_nil))))) (by rfl)) (ds_cons (ds_set (i := 5) sc_zbody.nd rfl (.inr rfl) (de_callR (g_ztake t) (ok.mono (by decide)) (takes_of rfl rfl rfl rfl) rfl t.G_ztake (dap_head rfl (.inr (.inl rfl)) (da_cons de_int da_nil))))
  (ds_cons (ds_set (i := 6) sc_zbody.nd rfl (.inl rfl) (de_callTy call_tupleD rfl t.n_tuple (by decide +kernel) (dl_cons (dp_o (de_do (do_comp (own := [("_law_at", 8)]) rfl sc_zbody.nd (di_rng1 rfl t.n_range (de_var (i := 5) rfl (.inr (.inl rfl)))) (blkOk_by (N := ["_law_bag_here", "_law_face_here", "_law_names_here", "_law_found", "_law_row", "_law_many", "_law_steps", "_law_stock", "_law_at"]) (sc := defScope (topS 17)) (by decide +kernel)) (by decide) (fun _ _ _ _ _ => (dg_name (i := 8) sc_zbody.nd rfl (.inl rfl))) (fun _ _ _ _ _ => dts_nil) (fun _ _ _ _ _ => (de_callR (g_zstep t) (ok.blk.mono (by decide)) takesN rfl t.G_zstep (dap_head rfl (.inr (.inl rfl)) (da_cons (de_var (i := 8) rfl (.inl rfl)) (da_cons (de_var (i := 5) rfl (.inr (.inl rfl))) da_nil)))))))) dl_nil)))
  (ds_cons (ds_set (i := 7) sc_zbody.nd rfl (.inl rfl) (de_tup (da_cons de_str (da_cons (de_ix ix_D opD_rD (dp_var (i := 2) rfl (.inl rfl)) (dp_o (de_callR (g_ztake t) (ok.mono (by decide)) (takes_of rfl rfl rfl rfl) rfl t.G_ztake (dap_head rfl (.inr (.inl rfl)) (da_cons (de_callB call_lenD rfl t.n_len (by decide +kernel) (dl_cons (dp_var (i := 2) rfl (.inl rfl)) dl_nil)) da_nil)))) (fun _ _ => rfl)) da_nil))))
  (ds_one (ds_app (ps_expr (pe_bm PySem.F.plainAttrs_list PySem.F.slot_list_append PySem.F.type_list_append mt_append (pe_var (i := 3) rfl (.inl rfl)) (pa_cons (de_ix ix_D opD_rD (dp_o (de_lst (da_cons (de_tup (da_cons de_str (da_cons (de_var (i := 6) rfl (.inl rfl)) da_nil))) (da_cons (de_tup (da_cons de_str (da_cons (de_var (i := 6) rfl (.inl rfl)) da_nil))) (da_cons (de_var (i := 7) rfl (.inl rfl)) da_nil))))) (dp_o (de_callR (g_ztake t) (ok.mono (by decide)) (takes_of rfl rfl rfl rfl) rfl t.G_ztake (dap_head rfl (.inr (.inl rfl)) (da_cons de_int da_nil)))) (fun _ _ => rfl)) pa_nil)))))))) ds_nil)))
  (ds_one (ds_ret (de_callTy call_tupleD rfl t.n_tuple (by decide +kernel) (dl_cons (dp_var (i := 3) rfl (.inl rfl)) dl_nil))))))
theorem sc_zmake : FnScope ["_law_bag_here", "_law_part", "_law_version", "_law_parts", "_law_names_here", "_law_face_here"] ["_law_bag_here", "_law_part", "_law_version", "_law_parts", "_law_names_here"] (defScope (topS 18)) := ⟨rfl, rfl, rfl, by decide +kernel, rfl, by decide +kernel, by decide +kernel⟩
theorem g_zmake (t : T K mg) : FnG P w K mg base 5 t.a_zmake t.d_zmake ["_law_bag_here", "_law_part", "_law_version", "_law_parts", "_law_names_here"] m_zmake :=
  fnG_of t.F_zmake sc_zmake (t.F_zmake.binds fun _ _ _ _ _ _ us hl => match us, hl with | [_, _, _, _, _], _ => rfl) rfl rfl fun cdv A outer s H E ok =>
  (ds_cons (ds_set (i := 5) sc_zmake.nd rfl (.inl rfl) (de_callR (g_zface t) (ok.mono (by decide)) (takes_of rfl rfl rfl rfl) rfl t.G_zface (dap_head rfl (.inl rfl) (da_cons (de_var (i := 1) rfl (.inl rfl)) (da_cons (de_var (i := 3) rfl (.inl rfl)) da_nil)))))
  (ds_one (ds_ret (de_tup (da_cons de_str (da_cons (de_var (i := 1) rfl (.inl rfl)) (da_cons (de_var (i := 2) rfl (.inl rfl)) (da_cons (de_var (i := 5) rfl (.inl rfl)) (da_cons (de_callR (g_zbody t) (ok.mono (by decide)) (takes_of rfl rfl rfl rfl) rfl t.G_zbody (dap_head rfl (.inl rfl) (da_cons (de_var (i := 5) rfl (.inl rfl)) (da_cons (de_var (i := 4) rfl (.inl rfl)) da_nil)))) da_nil)))))))))
theorem sc_zsome_makes : FnScope ["_law_bag_here", "_law_names_here", "_law_parts", "_law_found", "_law_part", "_law_version", "_law_make_here", "_law_rows", "_law_name"] ["_law_bag_here", "_law_names_here", "_law_parts"] (defScope (topS 22)) := ⟨rfl, rfl, rfl, by decide +kernel, rfl, by decide +kernel, by decide +kernel⟩
theorem g_zsome_makes (t : T K mg) : FnG P w K mg base 6 t.a_zsome_makes t.d_zsome_makes ["_law_bag_here", "_law_names_here", "_law_parts"] m_zsome_makes :=
  fnG_of t.F_zsome_makes sc_zsome_makes (t.F_zsome_makes.binds fun _ _ _ _ _ _ us hl => match us, hl with | [_, _, _], _ => rfl) rfl rfl fun cdv A outer s H E ok =>
  (ds_cons (ds_setO (i := 3) sc_zsome_makes.nd rfl (.inl rfl) (do_lst da_nil))
  (ds_cons (ds_for (passes_of rfl) rfl (di_any (de_var (i := 2) rfl (.inl rfl))) (dg_name (i := 4) sc_zsome_makes.nd rfl (.inl rfl)) (ds_cons (ds_set (i := 5) sc_zsome_makes.nd rfl (.inl rfl) (de_tup (da_cons (de_callR (g_ztake t) (ok.mono (by decide)) (takes_of rfl rfl rfl rfl) rfl t.G_ztake (dap_head rfl (.inr (.inl rfl)) (da_cons de_int da_nil))) (da_cons (de_callR (g_ztake t) (ok.mono (by decide)) (takes_of rfl rfl rfl rfl) rfl t.G_ztake (dap_head rfl (.inr (.inl rfl)) (da_cons de_int da_nil))) da_nil))))
  (ds_cons (ds_set (i := 6) sc_zsome_makes.nd rfl (.inl rfl) (de_callR (g_zmake t) (ok.mono (by decide)) (takes_of rfl rfl rfl rfl) rfl t.G_zmake (dap_head rfl (.inr (.inl rfl)) (da_cons (de_var (i := 4) rfl (.inl rfl)) (da_cons (de_var (i := 5) rfl (.inl rfl)) (da_cons (de_var (i := 2) rfl (.inl rfl)) (da_cons (de_lst (da_cons de_str da_nil)) da_nil)))))))
  (ds_cons (ds_if (dt_cmp (op_gtA ok.hu) (dp_o (de_callR (g_ztake t) (ok.mono (by decide)) (takes_of rfl rfl rfl rfl) rfl t.G_ztake (dap_head rfl (.inr (.inl rfl)) (da_cons de_int da_nil)))) (dp_o de_int) (nomark _)) (ds_cons (ds_setLc (i := 7) (own := [("_law_name", 8)]) rfl sc_zsome_makes.nd rfl rfl rfl rfl (by decide +kernel) (di_any (de_do (do_sorted ok.hu rfl t.n_sorted (by decide +kernel) (dp_var (i := 1) rfl (.inl rfl))))) (blkOk_by (N := ["_law_bag_here", "_law_names_here", "_law_parts", "_law_found", "_law_part", "_law_version", "_law_make_here", "_law_rows", "_law_name"]) (sc := defScope (topS 22)) (by decide +kernel)) (by decide) (fun _ _ _ _ _ => (dg_name (i := 8) sc_zsome_makes.nd rfl (.inl rfl))) (fun _ _ _ _ _ => (dts_one (dt_cmp (op_eqA ok.blk.hu) (dp_o (de_callR (g_ztake t) (ok.blk.mono (by decide)) takesN rfl t.G_ztake (dap_head rfl (.inr (.inl rfl)) (da_cons de_int da_nil)))) (dp_o de_int) (nomark _)))) (fun _ _ _ _ _ => (de_tup (da_cons de_str (da_cons (de_var (i := 8) rfl (.inl rfl)) (da_cons (de_callR (g_znumber t) (ok.blk.mono (by decide)) takesN rfl t.G_znumber (dap_head rfl (.inr (.inl rfl)) da_nil)) da_nil))))))
  (ds_one (ds_set (i := 6) sc_zsome_makes.nd rfl (.inl rfl) (de_tup (da_cons de_str (da_cons (de_var (i := 4) rfl (.inl rfl)) (da_cons (de_var (i := 5) rfl (.inl rfl)) (da_cons (de_callTy call_tupleD rfl t.n_tuple (by decide +kernel) (dl_cons (dp_var (i := 7) rfl (.inl rfl)) dl_nil)) (da_cons (de_tup da_nil) da_nil))))))))) ds_nil)
  (ds_one (ds_app (ps_expr (pe_bm PySem.F.plainAttrs_list PySem.F.slot_list_append PySem.F.type_list_append mt_append (pe_var (i := 3) rfl (.inl rfl)) (pa_cons (de_var (i := 6) rfl (.inl rfl)) pa_nil)))))))))
  (ds_one (ds_retV (i := 3) rfl (.inl rfl)))))
theorem sc_zcopy : FnScope ["_law_thing", "_law_one", "_law_name"] ["_law_thing"] (defScope (topS 8)) := ⟨rfl, rfl, rfl, by decide +kernel, rfl, by decide +kernel, by decide +kernel⟩
theorem g_zcopy (t : T K mg) : ∀ n : Nat, FnG P w K mg base (1 + n) t.a_zcopy t.d_zcopy ["_law_thing"] (m_zcopy n)
  | 0 => fnG_of t.F_zcopy sc_zcopy (t.F_zcopy.binds fun _ _ _ _ _ _ us hl => match us, hl with | [_], _ => rfl) rfl rfl fun cdv A outer s H E ok => dss_never
  | n + 1 => fnG_of t.F_zcopy sc_zcopy (t.F_zcopy.binds fun _ _ _ _ _ _ us hl => match us, hl with | [_], _ => rfl) rfl rfl fun cdv A outer s H E ok =>
  (ds_cons (ds_if (dt_val (de_isi (kits_list _) rfl t.n_isinstance rfl t.n_list (by decide +kernel) (dp_var (i := 0) rfl (.inr (.inl rfl))))) (ds_one (ds_ret (de_do (do_comp (own := [("_law_one", 1)]) rfl sc_zcopy.nd (di_any (de_var (i := 0) rfl (.inr (.inl rfl)))) (blkOk_by (N := ["_law_thing", "_law_one", "_law_name"]) (sc := defScope (topS 8)) (by decide +kernel)) (by decide) (fun _ _ _ _ _ => (dg_name (i := 1) sc_zcopy.nd rfl (.inl rfl))) (fun _ _ _ _ _ => dts_nil) (fun _ _ _ _ _ => (de_call (g_zcopy t n) (ok.blk.mono (Nat.le_refl _)) takesN rfl t.G_zcopy (da_cons (de_var (i := 1) rfl (.inl rfl)) da_nil))))))) ds_nil)
  (ds_cons (ds_if (dt_val (de_isi (kits_tuple _) rfl t.n_isinstance rfl t.n_tuple (by decide +kernel) (dp_var (i := 0) rfl (.inr (.inl rfl))))) (ds_one (ds_ret (de_callTy call_tupleD rfl t.n_tuple (by decide +kernel) (dl_cons (dp_o (de_do (do_comp (own := [("_law_one", 1)]) rfl sc_zcopy.nd (di_any (de_var (i := 0) rfl (.inr (.inl rfl)))) (blkOk_by (N := ["_law_thing", "_law_one", "_law_name"]) (sc := defScope (topS 8)) (by decide +kernel)) (by decide) (fun _ _ _ _ _ => (dg_name (i := 1) sc_zcopy.nd rfl (.inl rfl))) (fun _ _ _ _ _ => dts_nil) (fun _ _ _ _ _ => (de_call (g_zcopy t n) (ok.blk.mono (Nat.le_refl _)) takesN rfl t.G_zcopy (da_cons (de_var (i := 1) rfl (.inl rfl)) da_nil)))))) dl_nil)))) ds_nil)
  (ds_cons (ds_if (dt_val (de_isi (kits_dict _) rfl t.n_isinstance rfl t.n_dict (by decide +kernel) (dp_var (i := 0) rfl (.inr (.inl rfl))))) dss_never ds_nil)
  (ds_one (ds_retV (i := 0) rfl (.inr (.inl rfl)))))))
theorem sc_law : FnScope ["_law_script", "_law_bag_here", "_law_parts", "_law_names_here", "_law_turn", "_law_layers_here", "_law_makes", "_law_handed", "_law_name", "_law_found"] ["_law_script"] (defScope (topS 24)) := ⟨rfl, rfl, rfl, by decide +kernel, rfl, by decide +kernel, by decide +kernel⟩
theorem g_law (t : T K mg) (u : TabU base mg t.d_deepest nmT) : FnG P w K mg base 14 t.a_law t.d_law ["_law_script"] m_law :=
  fnG_of t.F_law sc_law (t.F_law.binds fun _ _ _ _ _ _ us hl => match us, hl with | [_], _ => rfl) rfl rfl fun cdv A outer s H E ok =>
  (ds_cons (ds_setO (i := 1) sc_law.nd rfl (.inl rfl) (do_call (g_zbag t) (ok.mono (by decide)) (takes_of rfl rfl rfl rfl) rfl t.G_zbag (da_cons (de_var (i := 0) rfl (.inl rfl)) da_nil)))
  (ds_cons (ds_set (i := 2) sc_law.nd rfl (.inl rfl) (de_callR (g_znames t) (ok.mono (by decide)) (takes_of rfl rfl rfl rfl) rfl t.G_znames (dap_head rfl (.inl rfl) (da_cons (de_op op_addD opD_rD (dp_o de_int) (dp_o (de_callR (g_ztake t) (ok.mono (by decide)) (takes_of rfl rfl rfl rfl) rfl t.G_ztake (dap_head rfl (.inl rfl) (da_cons de_int da_nil))))) da_nil))))
  (ds_cons (ds_set (i := 3) sc_law.nd rfl (.inl rfl) (de_op op_addD opD_rD (dp_o (de_lst (da_cons de_str (da_cons de_str da_nil)))) (dp_o (de_do (do_comp (own := [("_law_name", 8)]) rfl sc_law.nd (di_any (de_callR (g_znames t) (ok.mono (by decide)) (takes_of rfl rfl rfl rfl) rfl t.G_znames (dap_head rfl (.inl rfl) (da_cons de_int da_nil)))) (blkOk_by (N := ["_law_script", "_law_bag_here", "_law_parts", "_law_names_here", "_law_turn", "_law_layers_here", "_law_makes", "_law_handed", "_law_name", "_law_found"]) (sc := defScope (topS 24)) (by decide +kernel)) (by decide) (fun _ _ _ _ _ => (dg_name (i := 8) sc_law.nd rfl (.inl rfl))) (fun _ _ _ _ _ => (dts_one (dt_cmp (op_niA ok.blk.hu) (dp_var (i := 8) rfl (.inl rfl)) (dp_o (de_tup (da_cons de_str (da_cons de_str da_nil)))) (by rfl)))) (fun _ _ _ _ _ => (de_var (i := 8) rfl (.inl rfl))))))))
  (ds_cons (ds_for (passes_of rfl) rfl (di_rng1 rfl t.n_range de_int) (dg_name (i := 4) sc_law.nd rfl (.inl rfl)) (ds_cons (ds_set (i := 5) sc_law.nd rfl (.inl rfl) (de_callR (g_zturned t) (ok.mono (by decide)) (takes_of rfl rfl rfl rfl) rfl t.G_zturned (dap_head rfl (.inl rfl) (da_cons (de_callR (g_zlayers t) (ok.mono (by decide)) (takes_of rfl rfl rfl rfl) rfl t.G_zlayers (dap_head rfl (.inl rfl) (da_cons (de_var (i := 3) rfl (.inl rfl)) da_nil))) da_nil))))
  (ds_cons (ds_set (i := 6) sc_law.nd rfl (.inl rfl) (de_callR (g_zturned t) (ok.mono (by decide)) (takes_of rfl rfl rfl rfl) rfl t.G_zturned (dap_head rfl (.inl rfl) (da_cons (de_callR (g_zsome_makes t) (ok.mono (by decide)) (takes_of rfl rfl rfl rfl) rfl t.G_zsome_makes (dap_head rfl (.inl rfl) (da_cons (de_var (i := 3) rfl (.inl rfl)) (da_cons (de_var (i := 2) rfl (.inl rfl)) da_nil)))) da_nil))))
  (ds_cons (ds_set (i := 7) sc_law.nd rfl (.inl rfl) (de_lst (da_cons (de_call (g_zcopy t 12) (ok.mono (by decide)) (takes_of rfl rfl rfl rfl) rfl t.G_zcopy (da_cons (de_var (i := 5) rfl (.inl rfl)) da_nil)) (da_cons (de_call (g_zcopy t 12) (ok.mono (by decide)) (takes_of rfl rfl rfl rfl) rfl t.G_zcopy (da_cons (de_var (i := 6) rfl (.inl rfl)) da_nil)) da_nil))))
  (ds_one (ds_for (passes_of rfl) rfl (di_any (de_op op_mulG opD_rD (dp_o (de_callR (g_zturned t) (ok.mono (by decide)) (takes_of rfl rfl rfl rfl) rfl t.G_zturned (dap_head rfl (.inl rfl) (da_cons (de_op op_addD opD_rD (dp_var (i := 3) rfl (.inl rfl)) (dp_o (de_lst (da_cons de_str da_nil)))) da_nil)))) (dp_o de_int))) (dg_name (i := 8) sc_law.nd rfl (.inl rfl)) (ds_cons (ds_set (i := 9) sc_law.nd rfl (.inl rfl) (de_call (g_setting_of t u) (ok.mono (by decide)) (takes_of rfl rfl rfl rfl) rfl t.G_setting_of (da_cons (de_var (i := 8) rfl (.inl rfl)) (da_cons (de_ix ix_D opD_rD (dp_var (i := 7) rfl (.inl rfl)) (dp_o de_int) (fun _ _ => rfl)) (da_cons (de_ix ix_D opD_rD (dp_var (i := 7) rfl (.inl rfl)) (dp_o de_int) (fun _ _ => rfl)) da_nil)))))
  (ds_one (ds_if (dt_w (dw_or (dt_not (dt_val (de_call (g_zalike t) (ok.mono (by decide)) (takes_of rfl rfl rfl rfl) rfl t.G_zalike (da_cons (de_var (i := 9) rfl (.inl rfl)) (da_cons (de_call (g_zsetting t) (ok.mono (by decide)) (takes_of rfl rfl rfl rfl) rfl t.G_zsetting (da_cons (de_var (i := 8) rfl (.inl rfl)) (da_cons (de_var (i := 5) rfl (.inl rfl)) (da_cons (de_var (i := 6) rfl (.inl rfl)) da_nil)))) da_nil))))) (dw_or1 (dt_not (dt_val (de_call (g_zalike t) (ok.mono (by decide)) (takes_of rfl rfl rfl rfl) rfl t.G_zalike (da_cons (de_var (i := 7) rfl (.inl rfl)) (da_cons (de_lst (da_cons (de_var (i := 5) rfl (.inl rfl)) (da_cons (de_var (i := 6) rfl (.inl rfl)) da_nil))) da_nil)))))))) (ds_one (ds_ret de_bl)) ds_nil)))))))))
  (ds_one (ds_ret de_bl))))))
end
def e_deepest : He.DefD := ⟨("deepest", none), "deepest", "deepest", defArgs (topS 1), defBody (topS 1), defScope (topS 1), [], []⟩
def e_brought : He.DefD := ⟨("brought", none), "brought", "brought", defArgs (topS 2), defBody (topS 2), defScope (topS 2), [], []⟩
def e_setting_of : He.DefD := ⟨("setting_of", none), "setting_of", "setting_of", defArgs (topS 3), defBody (topS 3), defScope (topS 3), [], []⟩
def e_zbag : He.DefD := ⟨("_law_bag", none), "_law_bag", "_law_bag", defArgs (topS 5), defBody (topS 5), defScope (topS 5), [], []⟩
def e_ztake : He.DefD := ⟨("_law_take", none), "_law_take", "_law_take", defArgs (topS 6), defBody (topS 6), defScope (topS 6), [], []⟩
def e_zalike : He.DefD := ⟨("_law_alike", none), "_law_alike", "_law_alike", defArgs (topS 7), defBody (topS 7), defScope (topS 7), [], []⟩
def e_zcopy : He.DefD := ⟨("_law_copy", none), "_law_copy", "_law_copy", defArgs (topS 8), defBody (topS 8), defScope (topS 8), [], []⟩
def e_znames : He.DefD := ⟨("_law_names", none), "_law_names", "_law_names", defArgs (topS 9), defBody (topS 9), defScope (topS 9), [], []⟩
def e_znumber : He.DefD := ⟨("_law_number", none), "_law_number", "_law_number", defArgs (topS 10), defBody (topS 10), defScope (topS 10), [], []⟩
def e_zshape : He.DefD := ⟨("_law_shape", none), "_law_shape", "_law_shape", defArgs (topS 11), defBody (topS 11), defScope (topS 11), [], []⟩
def e_zsome : He.DefD := ⟨("_law_some", none), "_law_some", "_law_some", defArgs (topS 12), defBody (topS 12), defScope (topS 12), [], []⟩
def e_zkept_row : He.DefD := ⟨("_law_kept_row", none), "_law_kept_row", "_law_kept_row", defArgs (topS 13), defBody (topS 13), defScope (topS 13), [], []⟩
def e_zhook_row : He.DefD := ⟨("_law_hook_row", none), "_law_hook_row", "_law_hook_row", defArgs (topS 14), defBody (topS 14), defScope (topS 14), [], []⟩
def e_zface : He.DefD := ⟨("_law_face", none), "_law_face", "_law_face", defArgs (topS 15), defBody (topS 15), defScope (topS 15), [], []⟩
def e_zstep : He.DefD := ⟨("_law_step", none), "_law_step", "_law_step", defArgs (topS 16), defBody (topS 16), defScope (topS 16), [], []⟩
def e_zbody : He.DefD := ⟨("_law_body", none), "_law_body", "_law_body", defArgs (topS 17), defBody (topS 17), defScope (topS 17), [], []⟩
def e_zmake : He.DefD := ⟨("_law_make", none), "_law_make", "_law_make", defArgs (topS 18), defBody (topS 18), defScope (topS 18), [], []⟩
def e_zturned : He.DefD := ⟨("_law_turned", none), "_law_turned", "_law_turned", defArgs (topS 19), defBody (topS 19), defScope (topS 19), [], []⟩
def e_zany : He.DefD := ⟨("_law_any", none), "_law_any", "_law_any", defArgs (topS 20), defBody (topS 20), defScope (topS 20), [], []⟩
def e_zlayers : He.DefD := ⟨("_law_layers", none), "_law_layers", "_law_layers", defArgs (topS 21), defBody (topS 21), defScope (topS 21), [], []⟩
def e_zsome_makes : He.DefD := ⟨("_law_some_makes", none), "_law_some_makes", "_law_some_makes", defArgs (topS 22), defBody (topS 22), defScope (topS 22), [], []⟩
def e_zsetting : He.DefD := ⟨("_law_setting", none), "_law_setting", "_law_setting", defArgs (topS 23), defBody (topS 23), defScope (topS 23), [], []⟩
def e_law : He.DefD := ⟨("law", none), "law", "law", defArgs (topS 24), defBody (topS 24), defScope (topS 24), [], []⟩
def fn : List He.DefD := [e_deepest, e_brought, e_setting_of, e_zbag, e_ztake, e_zalike, e_zcopy, e_znames, e_znumber, e_zshape, e_zsome, e_zkept_row, e_zhook_row, e_zface, e_zstep, e_zbody, e_zmake, e_zturned, e_zany, e_zlayers, e_zsome_makes, e_zsetting, e_law]
def fa : List He.Fa := [.glo "deepest", .glo "brought", .glo "setting_of", .glo "_law_bag", .glo "_law_take", .glo "_law_alike", .glo "_law_copy", .glo "_law_names", .glo "_law_number", .glo "_law_shape", .glo "_law_some", .glo "_law_kept_row", .glo "_law_hook_row", .glo "_law_face", .glo "_law_step", .glo "_law_body", .glo "_law_make", .glo "_law_turned", .glo "_law_any", .glo "_law_layers", .glo "_law_some_makes", .glo "_law_setting", .glo "law", .free "min", .free "abs", .free "len", .free "repr", .free "max", .free "int", .free "range", .free "enumerate", .free "sorted", .free "tuple", .free "isinstance", .free "list", .free "dict"]
def loose : List PySem.Str := (["deepest", "brought", "setting_of", "_law_bag", "_law_take", "_law_alike", "_law_copy", "_law_names", "_law_number", "_law_shape", "_law_some", "_law_kept_row", "_law_hook_row", "_law_face", "_law_step", "_law_body", "_law_make", "_law_turned", "_law_any", "_law_layers", "_law_some_makes", "_law_setting"] : List PySem.Str)
abbrev R : PySem.W.OpenRow := PySem.W.OpenLaw.row PySem.Challenge.rw_plughall_k61_setting_told
def ex : List Look1 := [sysB]
def ts : List (PySem.Str × List PySem.Str) := []
def tf : List He.Defn := [("deepest", none)]
abbrev hk : PySem.W.Hook := hookZ 4 fa fn ex ts tf
def ob (s : PySem.W.SharedT) : AlZ := lookZ 4 fa fn ex ts tf (HandSHeadRun.getT s)
theorem ob_eq (s : PySem.W.SharedT) : ob s = hk.obs s.abs := lookZ_eq (HandSHeadRun.getT_eq s)
theorem run (w : World) : HandSHeadRun.RunEq R (PySem.W.view R.prog [24]) hk ob 1900 loose w := by
  intro os
  kernel_rfl
theorem facts {P : Program} {w : World} {K : PySem.W.Frag} {h : Heap} {mg : Str → Option Value} {f : Addr} (X : K.In h) (G : h.Ns mainGlobals mg) (hfa : mg ("law" : Str) = some (.ref f)) (c : He.SaysD fa fn K) (cx : exB ex K = true) (ct : tabsY ts K = keysY ts w) (ck : TabK tf K h) (GL : h.Ns mainGlobals mg) :
    ∃ (fd : FuncData) (c Pt : Addr), h.get? Pt = some { cls := .none, data := .fields #[] } ∧ K.lookup Pt = none ∧ PySem.W.CodeHd h c Pt ∧ (∀ (s : Shared) (v : Value), BindsTo s fd ⟨[v], []⟩ [("_law_script", v)]) ∧ ∀ base : Heap, K.In base → base.Ns mainGlobals mg → LamX.TabB base mg c Pt → @FnG ⟨[(Pt, nmT)]⟩ P w K mg base 14 f fd ["_law_script"] m_law := by
  obtain ⟨d_deepest, F_deepest⟩ := c.def_ 0 (d := e_deepest) rfl
  obtain ⟨d_brought, F_brought⟩ := c.def_ 1 (d := e_brought) rfl
  obtain ⟨d_setting_of, F_setting_of⟩ := c.def_ 2 (d := e_setting_of) rfl
  obtain ⟨d_zbag, F_zbag⟩ := c.def_ 3 (d := e_zbag) rfl
  obtain ⟨d_ztake, F_ztake⟩ := c.def_ 4 (d := e_ztake) rfl
  obtain ⟨d_zalike, F_zalike⟩ := c.def_ 5 (d := e_zalike) rfl
  obtain ⟨d_zcopy, F_zcopy⟩ := c.def_ 6 (d := e_zcopy) rfl
  obtain ⟨d_znames, F_znames⟩ := c.def_ 7 (d := e_znames) rfl
  obtain ⟨d_znumber, F_znumber⟩ := c.def_ 8 (d := e_znumber) rfl
  obtain ⟨d_zshape, F_zshape⟩ := c.def_ 9 (d := e_zshape) rfl
  obtain ⟨d_zsome, F_zsome⟩ := c.def_ 10 (d := e_zsome) rfl
  obtain ⟨d_zkept_row, F_zkept_row⟩ := c.def_ 11 (d := e_zkept_row) rfl
  obtain ⟨d_zhook_row, F_zhook_row⟩ := c.def_ 12 (d := e_zhook_row) rfl
  obtain ⟨d_zface, F_zface⟩ := c.def_ 13 (d := e_zface) rfl
  obtain ⟨d_zstep, F_zstep⟩ := c.def_ 14 (d := e_zstep) rfl
  obtain ⟨d_zbody, F_zbody⟩ := c.def_ 15 (d := e_zbody) rfl
  obtain ⟨d_zmake, F_zmake⟩ := c.def_ 16 (d := e_zmake) rfl
  obtain ⟨d_zturned, F_zturned⟩ := c.def_ 17 (d := e_zturned) rfl
  obtain ⟨d_zany, F_zany⟩ := c.def_ 18 (d := e_zany) rfl
  obtain ⟨d_zlayers, F_zlayers⟩ := c.def_ 19 (d := e_zlayers) rfl
  obtain ⟨d_zsome_makes, F_zsome_makes⟩ := c.def_ 20 (d := e_zsome_makes) rfl
  obtain ⟨d_zsetting, F_zsetting⟩ := c.def_ 21 (d := e_zsetting) rfl
  obtain ⟨d_law, F_law⟩ := c.def_ 22 (d := e_law) rfl
  have e := hfa.symm.trans (He.glo_ok X G (c.fact 22 (f := .glo "law") rfl))
  cases e
  have b := FunD.bindsA (ps := ["_law_script"]) F_law fun _ _ _ _ _ _ us hl => match us, hl with | [_], _ => rfl
  let t : T K mg := {
    sy := sysB_ok (exB_at cx 0)
    a_deepest := _, d_deepest := d_deepest, F_deepest := funOf F_deepest, G_deepest := He.glo_ok X G (c.fact 0 (f := .glo "deepest") rfl)
    a_brought := _, d_brought := d_brought, F_brought := funOf F_brought, G_brought := He.glo_ok X G (c.fact 1 (f := .glo "brought") rfl)
    a_setting_of := _, d_setting_of := d_setting_of, F_setting_of := funOf F_setting_of, G_setting_of := He.glo_ok X G (c.fact 2 (f := .glo "setting_of") rfl)
    a_zbag := _, d_zbag := d_zbag, F_zbag := funOf F_zbag, G_zbag := He.glo_ok X G (c.fact 3 (f := .glo "_law_bag") rfl)
    a_ztake := _, d_ztake := d_ztake, F_ztake := funOf F_ztake, G_ztake := He.glo_ok X G (c.fact 4 (f := .glo "_law_take") rfl)
    a_zalike := _, d_zalike := d_zalike, F_zalike := funOf F_zalike, G_zalike := He.glo_ok X G (c.fact 5 (f := .glo "_law_alike") rfl)
    a_zcopy := _, d_zcopy := d_zcopy, F_zcopy := funOf F_zcopy, G_zcopy := He.glo_ok X G (c.fact 6 (f := .glo "_law_copy") rfl)
    a_znames := _, d_znames := d_znames, F_znames := funOf F_znames, G_znames := He.glo_ok X G (c.fact 7 (f := .glo "_law_names") rfl)
    a_znumber := _, d_znumber := d_znumber, F_znumber := funOf F_znumber, G_znumber := He.glo_ok X G (c.fact 8 (f := .glo "_law_number") rfl)
    a_zshape := _, d_zshape := d_zshape, F_zshape := funOf F_zshape, G_zshape := He.glo_ok X G (c.fact 9 (f := .glo "_law_shape") rfl)
    a_zsome := _, d_zsome := d_zsome, F_zsome := funOf F_zsome, G_zsome := He.glo_ok X G (c.fact 10 (f := .glo "_law_some") rfl)
    a_zkept_row := _, d_zkept_row := d_zkept_row, F_zkept_row := funOf F_zkept_row, G_zkept_row := He.glo_ok X G (c.fact 11 (f := .glo "_law_kept_row") rfl)
    a_zhook_row := _, d_zhook_row := d_zhook_row, F_zhook_row := funOf F_zhook_row, G_zhook_row := He.glo_ok X G (c.fact 12 (f := .glo "_law_hook_row") rfl)
    a_zface := _, d_zface := d_zface, F_zface := funOf F_zface, G_zface := He.glo_ok X G (c.fact 13 (f := .glo "_law_face") rfl)
    a_zstep := _, d_zstep := d_zstep, F_zstep := funOf F_zstep, G_zstep := He.glo_ok X G (c.fact 14 (f := .glo "_law_step") rfl)
    a_zbody := _, d_zbody := d_zbody, F_zbody := funOf F_zbody, G_zbody := He.glo_ok X G (c.fact 15 (f := .glo "_law_body") rfl)
    a_zmake := _, d_zmake := d_zmake, F_zmake := funOf F_zmake, G_zmake := He.glo_ok X G (c.fact 16 (f := .glo "_law_make") rfl)
    a_zturned := _, d_zturned := d_zturned, F_zturned := funOf F_zturned, G_zturned := He.glo_ok X G (c.fact 17 (f := .glo "_law_turned") rfl)
    a_zany := _, d_zany := d_zany, F_zany := funOf F_zany, G_zany := He.glo_ok X G (c.fact 18 (f := .glo "_law_any") rfl)
    a_zlayers := _, d_zlayers := d_zlayers, F_zlayers := funOf F_zlayers, G_zlayers := He.glo_ok X G (c.fact 19 (f := .glo "_law_layers") rfl)
    a_zsome_makes := _, d_zsome_makes := d_zsome_makes, F_zsome_makes := funOf F_zsome_makes, G_zsome_makes := He.glo_ok X G (c.fact 20 (f := .glo "_law_some_makes") rfl)
    a_zsetting := _, d_zsetting := d_zsetting, F_zsetting := funOf F_zsetting, G_zsetting := He.glo_ok X G (c.fact 21 (f := .glo "_law_setting") rfl)
    a_law := _, d_law := d_law, F_law := funOf F_law, G_law := He.glo_ok X G (c.fact 22 (f := .glo "law") rfl)
    n_min := He.free_ok X G (c.fact 23 (f := .free "min") rfl)
    n_abs := He.free_ok X G (c.fact 24 (f := .free "abs") rfl)
    n_len := He.free_ok X G (c.fact 25 (f := .free "len") rfl)
    n_repr := He.free_ok X G (c.fact 26 (f := .free "repr") rfl)
    n_max := He.free_ok X G (c.fact 27 (f := .free "max") rfl)
    n_int := He.free_ok X G (c.fact 28 (f := .free "int") rfl)
    n_range := He.free_ok X G (c.fact 29 (f := .free "range") rfl)
    n_enumerate := He.free_ok X G (c.fact 30 (f := .free "enumerate") rfl)
    n_sorted := He.free_ok X G (c.fact 31 (f := .free "sorted") rfl)
    n_tuple := He.free_ok X G (c.fact 32 (f := .free "tuple") rfl)
    n_isinstance := He.free_ok X G (c.fact 33 (f := .free "isinstance") rfl)
    n_list := He.free_ok X G (c.fact 34 (f := .free "list") rfl)
    n_dict := He.free_ok X G (c.fact 35 (f := .free "dict") rfl) }
  have mem : (("deepest", none) : He.Defn) ∈ tf := List.mem_singleton.mpr rfl
  refine ⟨_, (He.cT K ("deepest", none)).1, (He.cT K ("deepest", none)).2, ck.empty _ mem, ck.out _ mem, PySem.W.codeHd_of_K X (ck.hd _ mem), fun s v => b s [v] rfl, fun base _ _ tb => ?_⟩
  letI : TabC := ⟨[((He.cT K ("deepest", none)).2, nmT)]⟩
  exact g_law t ⟨_, _, code_at (x := "deepest") (q := "deepest") (st := topS 1) F_deepest, tb, rfl⟩
end k61

set_option Elab.async false
set_option linter.all false
set_option maxRecDepth 100000
set_option maxHeartbeats 0
namespace k61
open PySem PySem.Spec PyProof.Rows L2 Dl TL
open Kd (dt df)
open Fa (ltD)
open Lf (strL)
open Fc (start take_e for_g2 pick pick_s numOk TS T1 TA tinyB tinyA szTA OthR dflD rgtD FaceR addF_l calm1 calm_soft)
local macro_rules
  | `(tactic| simp! [$ls,*]) => `(tactic| simp only [
    bind_ok, bind_err, bindS_ok, bindS_err, of_some, slot0, slotS, rdVar_e, rdC_val, rdC_own, cellD_val, cellD_own, cellD_ref, pkVar_e, pkC_some,
    opd_tmp, opd_var, lendC_own, lendC_ref, stor_n, stor_v, stor_o, stor_hit, eq_self, stor_next, map_some', soft_none, soft_val, soft_own, fC_e,
    fOf_e, ofK_e, op2_e, fBin_e, bin1_e, bin2_e, op1_e, fUn_e, un1_e, fNil_e, fCons_e, cons1_e, cons2_e, apCons_e, fTup_e, fLst_e, tup1_e, lst1_e,
    lNil_e, lCons_e, lc1_e, lc2_e, opL_nil, opL_cons, op2L_e, opN_e, fCall_e, call1_e, fIsi_e, isi1_e, fMeth_e, meth1_e, methT_s, methT_l, meth2_e, opM_e,
    fSlice_e, sl1_e, sl2_e, sl3_e, ptNone_e, ptSome_e, toPt_e, toB_e, fB_e, fChain_e, ch1_e, ch2_e, ch3_t, ch3_f, ch4_e, fAnd_e, fOr_e, fNot_e, and1_t,
    and1_f, or1_t, or1_f, not1_e, fAndV_e, fOrV_e, fNotV_e, andV1_t, andV1_f, orV1_t, orV1_f, notV1_e, fIf_e, if1_t, if1_f, fV_e, fVO_e, v1_e, vO1_e,
    cellRes_ok, toVal_v, toVal_o, toOwn_o, mapV0, mapV1, apHead_e, apH1_e, apH2_e, fR_e, r1_e, r2_0, r2_1, back1_0, back1_S, backC_own, backC_ref,
    cellResR_e, cR_ref, cR_none, sSeq_e, seq1_n, seq1_r, seq1_b, seq1_c, sNext_e, sDrop_e, drop1_e, sRet_e, sRetO_e, ret1_e, retO1_e, sRetN_e, sRetV_e,
    retC_v, retC_o, nextO_e, sSet_e, sSetO_e, set1_e, setO1_e, bName_e, bNil_e, bCons_e, bCons1_e, sAsg_e, asg1_e, storN_e, par1_e, sAugN_e, augN0_e,
    augN1_e, sIf_e, sif1_t, sif1_f, sFor_e, sfor1_e, iAny_e, anyI_l, anyI_t, anyI_s, iRng1_e, atI_0, atI_1, atI_2, atI_3, atI_4, atI_5, atI_6, atI_7,
    atI_8, atI_9, atI_10, atI_11, atI_12, atN_0, atN_S, lset_0, lset_S, mapc, putN_e, sItem_e, item1_e, item2_e, item3_e, item4_0, item4_1, item4_2,
    item4_3, item4_4, item4_5, item4_6, item4_7, item4_8, item4_9, sAugI_e, augIs_e, augIk_e, augI0_0, augI0_1, augI0_2, augI0_3, augI0_4, augI0_5,
    augI1_e, augI2_e, augI3_e, sApp_e, app0_e, app1_e, mir_e, runBody_e, fin_r, fin_n, outs_n, outs_v, outs_r, addF_i, subF_i, eqF_i, eqF_s, neF_i,
    neF_s, ltF_i, gtF_i, leF_i, geF_i, isF_n, isnF_n, itF_l, itF_t, lenF_l, lenF_t, absF_i, intF_i, intF_b, negF_i, revF_l, maxF_i, minF_i, listF_l,
    listF_t, sliceF_l, sliceF_t, List.length_map, List.set_cons_zero, List.set_cons_succ, Int.reducePow, Int.reduceNeg, Int.reduceLT, Int.reduceLE,
    Int.reduceMod, Int.cast_ofNat_Int, Int.natCast_add, Int.reduceAdd, Int.reduceSub, Int.reduceMul, Int.reduceDiv, Int.reduceToNat, decide_true, decide_false, if_true, if_false, and_self, Nat.reduceAdd, Nat.reduceSub,
    Nat.reduceLeDiff, List.length_cons, List.length_nil, List.map_cons, List.map_nil, List.cons_append, List.nil_append, List.replicate, mulF_l,
    mulF_r, mulG_i, isi_NoneType_int, isi_NoneType_bool, isi_NoneType_str, isi_NoneType_list, isi_NoneType_tuple, isi_NoneType_dict, isi_bool_int, isi_bool_bool, isi_bool_str, isi_bool_list, isi_bool_tuple, isi_bool_dict, isi_int_int, isi_int_bool, isi_int_str, isi_int_list, isi_int_tuple, isi_int_dict, isi_str_int, isi_str_bool, isi_str_str, isi_str_list, isi_str_tuple, isi_str_dict, isi_list_int, isi_list_bool, isi_list_str, isi_list_list, isi_list_tuple, isi_list_dict, isi_tuple_int, isi_tuple_bool, isi_tuple_str, isi_tuple_list, isi_tuple_tuple, isi_tuple_dict, isi_dict_int, isi_dict_bool, isi_dict_str, isi_dict_list, isi_dict_tuple, isi_dict_dict, fPNil_e, fPCons_e, pc1_e, pc2_e, pc3_e, fDct_e, dct1_e, modF_i, divF_i,    forV_e, forVc_v, forVc_r, forVc_o, map_n, map_r, r2_2, lOne_e, lOne1_e, opN2_e, fCallK_e, ck1_e, ck2_e,
 $ls,*])
theorem bag_m : m_zbag = Bag.m_zbag := rfl
theorem take_m : m_ztake = Df.m_ztake := rfl
theorem number_m : m_znumber = Fc.m_znumber := rfl
theorem names_m : m_znames = Fc.m_znames := rfl
theorem turned_m : m_zturned = Fc.m_zturned := rfl
theorem any_m : m_zany = Fc.m_zany := rfl
theorem make_m : m_zmake = Fc.m_zmake := rfl
theorem alike_m : m_zalike = Fc.m_zalike := rfl
/-! ### layers -/
abbrev Ly := Int × Str × Int
def lyD (l : Ly) : D := .tuple [.int l.1, .str l.2.1, .int l.2.2]
abbrev toldL (n : Str) (L : List Ly) : List (Int × Int) := (L.filter fun l => decide (l.2.1 = n)).map fun l => (l.1, l.2.2)
def prD (p : Int × Int) : D := .tuple [.int p.1, .int p.2]
/-- the number beside a key that no other key is ahead of -/
def Best {K : Type} (le : K → K → Prop) (T : List (K × Int)) (v : Int) : Prop := ∃ d, (d, v) ∈ T ∧ ∀ q ∈ T, le d q.1
theorem Best.one {K : Type} {le : K → K → Prop} (anti : ∀ a b, le a b → le b a → a = b) {T : List (K × Int)} {v w : Int} (h : (T.map (·.1)).Nodup) (a : Best le T v) (c : Best le T w) : v = w := by
  obtain ⟨d, m1, h1⟩ := a
  obtain ⟨e, m2, h2⟩ := c
  have ed : d = e := anti _ _ (h1 _ m2) (h2 _ m1)
  subst ed
  have inj : ∀ {T : List (K × Int)}, (T.map (·.1)).Nodup → ∀ {x y}, (d, x) ∈ T → (d, y) ∈ T → x = y := fun {T} h => by
    induction T with
    | nil => intro x y m; cases m
    | cons p T ih =>
      intro x y mx my
      rw [List.map_cons, List.nodup_cons] at h
      rcases List.mem_cons.mp mx with z | z
      · rcases List.mem_cons.mp my with z2 | z2
        · rw [← z] at z2
          injection z2 with _ z3
          exact z3.symm
        · exact absurd (List.mem_map.mpr ⟨_, z2, rfl⟩) (by rw [← z] at h; exact h.1)
      · rcases List.mem_cons.mp my with z2 | z2
        · exact absurd (List.mem_map.mpr ⟨_, z, rfl⟩) (by rw [← z2] at h; exact h.1)
        · exact ih h.2 z z2
  exact inj h m1 m2
theorem Best.perm {K : Type} {le : K → K → Prop} {T U : List (K × Int)} {v : Int} (p : T.Perm U) (h : Best le T v) : Best le U v := by
  obtain ⟨d, m, k⟩ := h
  exact ⟨d, p.mem_iff.mp m, fun q mq => k q (p.mem_iff.mpr mq)⟩
abbrev geI : Int → Int → Prop := fun a b => b ≤ a
abbrev leT : Str → Str → Prop := fun a b => a.cps.toList ≤ b.cps.toList
theorem geI_anti (a b : Int) (h1 : geI a b) (h2 : geI b a) : a = b := by
  unfold geI at *
  omega
theorem leT_anti (a b : Str) (h1 : leT a b) (h2 : leT b a) : a = b := leTx_anti a b (by unfold leTx; exact dt h1) (by unfold leTx; exact dt h2)
abbrev Top (T : List (Int × Int)) (v : Int) : Prop := Best geI T v
abbrev Least (T : List (Str × Int)) (v : Int) : Prop := Best leT T v
/-- the kit's way to the best of some -/
theorem fold_best {K : Type} {le : K → K → Prop} (rfl' : ∀ a, le a a) (tr : ∀ a b c, le a b → le b c → le a c) (f : K × Int → K × Int → Bool) (h1 : ∀ a y, f y a = true → le y.1 a.1) (h2 : ∀ a y, f y a = false → le a.1 y.1) : ∀ (xs : List (K × Int)) (x : K × Int),
    xs.foldl (fun a y => if f y a = true then y else a) x ∈ x :: xs ∧ ∀ q ∈ x :: xs, le (xs.foldl (fun a y => if f y a = true then y else a) x).1 q.1
  | [], x => ⟨List.mem_cons_self, fun q m => by
    rcases List.mem_cons.mp m with z | z
    · rw [z]
      exact rfl' _
    · cases z⟩
  | y :: xs, x => by
    obtain ⟨i1, i2⟩ := fold_best rfl' tr f h1 h2 xs (if f y x = true then y else x)
    rw [List.foldl_cons]
    generalize xs.foldl (fun a y => if f y a = true then y else a) (if f y x = true then y else x) = r at *
    have low := i2 _ List.mem_cons_self
    refine ⟨?_, fun q m => ?_⟩
    · rcases List.mem_cons.mp i1 with z | z
      · rw [z]
        split
        · exact List.mem_cons_of_mem _ List.mem_cons_self
        · exact List.mem_cons_self
      · exact List.mem_cons_of_mem _ (List.mem_cons_of_mem _ z)
    · by_cases hf : f y x = true
      · rw [if_pos hf] at low
        rcases List.mem_cons.mp m with z | z
        · rw [z]
          exact tr _ _ _ low (h1 _ _ hf)
        · rcases List.mem_cons.mp z with z | z
          · rw [z]
            exact low
          · exact i2 q (List.mem_cons_of_mem _ z)
      · have hf' := eq_false_of_ne_true hf
        rw [if_neg hf] at low
        rcases List.mem_cons.mp m with z | z
        · rw [z]
          exact low
        · rcases List.mem_cons.mp z with z | z
          · rw [z]
            exact tr _ _ _ low (h2 _ _ hf')
          · exact i2 q (List.mem_cons_of_mem _ z)
theorem minD_enc {α : Type} (enc : α → D) : ∀ (xs : List α) (x : α), PySem.W.minD (enc x) (xs.map enc) = enc (xs.foldl (fun a y => if PySem.W.dataLt (enc y) (enc a) = true then y else a) x)
  | [], x => rfl
  | y :: xs, x => by
    have ih := minD_enc enc xs (if PySem.W.dataLt (enc y) (enc x) = true then y else x)
    rw [List.foldl_cons, ← ih]
    show PySem.W.minD _ _ = _
    unfold PySem.W.minD
    rw [List.map_cons, List.foldl_cons]
    congr 1
    split <;> rfl
theorem maxD_enc {α : Type} (enc : α → D) : ∀ (xs : List α) (x : α), PySem.W.maxD (enc x) (xs.map enc) = enc (xs.foldl (fun a y => if PySem.W.dataLt (enc a) (enc y) = true then y else a) x)
  | [], x => rfl
  | y :: xs, x => by
    have ih := maxD_enc enc xs (if PySem.W.dataLt (enc x) (enc y) = true then y else x)
    rw [List.foldl_cons, ← ih]
    show PySem.W.maxD _ _ = _
    unfold PySem.W.maxD
    rw [List.map_cons, List.foldl_cons]
    congr 1
    split <;> rfl
/-! pairs in the kit's order -/
theorem lt_ii (a c x y : Int) : (ltD (.tuple [.int a, .int x]) (.tuple [.int c, .int y]) = true → a ≤ c) ∧ (ltD (.tuple [.int a, .int x]) (.tuple [.int c, .int y]) = false → c ≤ a) := by
  by_cases e : a = c
  · subst e
    exact ⟨fun _ => Int.le_refl _, fun _ => Int.le_refl _⟩
  · rw [Lo.lt_diff rfl (by rw [Lo.ev_i, df e]), Lo.lt_int]
    constructor
    · intro h
      have := of_decide_eq_true h
      omega
    · intro h
      have := of_decide_eq_false h
      omega
theorem lt_si (a c : Str) (x y : Int) : (ltD (.tuple [.str a, .int x]) (.tuple [.str c, .int y]) = true → leT a c) ∧ (ltD (.tuple [.str a, .int x]) (.tuple [.str c, .int y]) = false → leT c a) := by
  by_cases e : a = c
  · subst e
    exact ⟨fun _ => List.le_refl _, fun _ => List.le_refl _⟩
  · rw [Lo.lt_diff rfl (by rw [Lo.ev_s, df e]), Lo.lt_str]
    constructor
    · intro h
      exact List.le_of_lt (of_decide_eq_true h)
    · intro h
      exact List.not_lt.mp (of_decide_eq_false h)
theorem lt_s1 (a c : Str) : (ltD (.str a) (.str c) = true → leT a c) ∧ (ltD (.str a) (.str c) = false → leT c a) := by
  rw [Lo.lt_str]
  constructor
  · intro h
    exact List.le_of_lt (of_decide_eq_true h)
  · intro h
    exact List.not_lt.mp (of_decide_eq_false h)
theorem leT_tr (a b c : Str) (h1 : leT a b) (h2 : leT b c) : leT a c := List.le_trans h1 h2
def psD (p : Str × Int) : D := .tuple [.str p.1, .int p.2]
theorem max_top (p : Int × Int) (T : List (Int × Int)) : ∃ q : Int × Int, PySem.W.maxD (prD p) (T.map prD) = prD q ∧ Top (p :: T) q.2 := by
  have h := fold_best (le := geI) (fun a => Int.le_refl _) (fun a b c h1 h2 => Int.le_trans h2 h1) (fun y a => PySem.W.dataLt (prD a) (prD y)) (fun a y h => (lt_ii a.1 y.1 a.2 y.2).1 h) (fun a y h => (lt_ii a.1 y.1 a.2 y.2).2 h) T p
  refine ⟨_, maxD_enc prD T p, _, h.1, h.2⟩
theorem min_least (p : Str × Int) (T : List (Str × Int)) : ∃ q : Str × Int, PySem.W.minD (psD p) (T.map psD) = psD q ∧ Least (p :: T) q.2 := by
  have h := fold_best (le := leT) (fun a => List.le_refl _) leT_tr (fun y a => PySem.W.dataLt (psD y) (psD a)) (fun a y h => (lt_si y.1 a.1 y.2 a.2).1 h) (fun a y h => (lt_si y.1 a.1 y.2 a.2).2 h) T p
  refine ⟨_, minD_enc psD T p, _, h.1, h.2⟩
theorem min_key (p : Str × Int) (T : List (Str × Int)) : ∃ q : Str × Int, PySem.W.minD (.str p.1) (T.map fun q => .str q.1) = .str q.1 ∧ q ∈ p :: T ∧ ∀ r ∈ p :: T, leT q.1 r.1 := by
  have h := fold_best (le := leT) (fun a => List.le_refl _) leT_tr (fun y a => PySem.W.dataLt (.str y.1) (.str a.1)) (fun a y h => (lt_s1 y.1 a.1).1 h) (fun a y h => (lt_s1 y.1 a.1).2 h) T p
  refine ⟨_, minD_enc (fun q : Str × Int => (PyData.str q.1 : D)) T p, h.1, h.2⟩
theorem eq_s2 {x y : Str} : eqF (.str x) (.str y) = some (.bool (decide (x = y))) := eqF_s
theorem told_c (n : Str) (L : List Ly) (hl : L.length ≤ 1000) : C_deepest_1 [some (.val (.str n)), some (.val (.list (L.map lyD))), none, none, none, none] = .ok (.list ((toldL n L).map prD)) [some (.val (.str n)), some (.val (.list (L.map lyD))), none, none, none, none] := by
  have e := Fa.comp_mapB (vs := [3, 4, 5]) (B := bTup 3 (bCons (bName 3) (bCons (bName 4) (bCons (bName 5) bNil)))) (I := I_deepest_1) (T := T_deepest_1) (E := E_deepest_1) (δ := [some (.val (.str n)), some (.val (.list (L.map lyD))), none, none, none, none]) (δ1 := [some (.val (.str n)), some (.val (.list (L.map lyD))), none, none, none, none])
    (ds := L.map lyD) (fun d => match d with
      | .tuple [_, .str s, _] => decide (s = n)
      | _ => false) (fun d => match d with
      | .tuple [a, _, c] => .tuple [a, c]
      | _ => .none) (fun d => [some (.val (.str n)), some (.val (.list (L.map lyD))), none, some (.val (match d with
      | .tuple [a, _, _] => a
      | _ => .none)), some (.val (match d with
      | .tuple [_, s, _] => s
      | _ => .none)), some (.val (match d with
      | .tuple [_, _, c] => c
      | _ => .none))]) (by
    unfold I_deepest_1
    simp! []) rfl (by rw [List.length_map]; omega) rfl rfl (fun d md => by
    obtain ⟨⟨a, s, c⟩, _, rfl⟩ := List.mem_map.mp md
    refine ⟨rfl, rfl, ?_, fun _ => ?_⟩
    · show T_deepest_1 [some (.val (.str n)), some (.val (.list (L.map lyD))), none, some (.val (.int a)), some (.val (.str s)), some (.val (.int c))] = .ok (decide (s = n)) [some (.val (.str n)), some (.val (.list (L.map lyD))), none, some (.val (.int a)), some (.val (.str s)), some (.val (.int c))]
      generalize L.map lyD = X
      unfold T_deepest_1
      simp! []
    · show E_deepest_1 [some (.val (.str n)), some (.val (.list (L.map lyD))), none, some (.val (.int a)), some (.val (.str s)), some (.val (.int c))] = .ok (.tuple [.int a, .int c]) [some (.val (.str n)), some (.val (.list (L.map lyD))), none, some (.val (.int a)), some (.val (.str s)), some (.val (.int c))]
      generalize L.map lyD = X
      unfold E_deepest_1
      simp! [])
  have q : (((L.map lyD).filter fun d => match d with
      | .tuple [_, .str s, _] => decide (s = n)
      | _ => false).map fun d => match d with
      | .tuple [a, _, c] => .tuple [a, c]
      | _ => .none) = (toldL n L).map prD := by
    rw [List.filter_map, List.map_map, List.map_map]
    rfl
  unfold C_deepest_1
  rw [e, q]
/-! the sort -/
theorem le_int (a c : Int) : PySem.W.dataLe false (fun d : D => d) (.int a) (.int c) = decide (a ≤ c) := by
  rw [PySem.W.dataLe_eq]
  show (!PySem.W.dataLt (.int c) (.int a)) = _
  rw [PySem.W.dataLt_int]
  by_cases h : c < a
  · rw [dt h, df (by omega)]
    rfl
  · rw [df h, dt (by omega)]
    rfl
def leP (p q : Int × Int) : Bool := decide (p.1 ≤ q.1)
theorem le_pr (p q : Int × Int) : PySem.W.dataLe false hd0 (prD p) (prD q) = leP p q := le_int p.1 q.1
theorem sort_pr (T : List (Int × Int)) : sortHd (T.map prD) = (T.mergeSort leP).map prD := by
  unfold sortHd
  exact (List.map_mergeSort (r := leP) (s := PySem.W.dataLe false hd0) (f := prD) (l := T) (fun a _ b _ => (le_pr a b).symm)).symm
theorem sorted_pr (T : List (Int × Int)) : (T.mergeSort leP).Pairwise fun a b => a.1 ≤ b.1 := by
  have := List.pairwise_mergeSort (le := leP) (fun a b c h1 h2 => by
    unfold leP at *
    simp only [decide_eq_true_eq] at *
    omega) (fun a b => by
    unfold leP
    simp only [Bool.or_eq_true, decide_eq_true_eq]
    omega) T
  exact this.imp fun h => by
    unfold leP at h
    simpa using h
theorem last_top {T : List (Int × Int)} (h : T ≠ []) : ∃ p, (T.mergeSort leP).getLast? = some p ∧ Top T p.2 := by
  have pm := List.mergeSort_perm T leP
  have ne : T.mergeSort leP ≠ [] := fun z => h (by
    have := pm.length_eq
    rw [z] at this
    exact List.length_eq_zero_iff.mp this.symm)
  refine ⟨(T.mergeSort leP).getLast ne, List.getLast?_eq_some_getLast ne, ((T.mergeSort leP).getLast ne).1, pm.mem_iff.mp (List.getLast_mem ne), fun q mq => ?_⟩
  have mq := pm.mem_iff.mpr mq
  have pw := sorted_pr T
  rcases List.mem_iff_getElem.mp mq with ⟨i, hi, rfl⟩
  rw [List.getLast_eq_getElem]
  by_cases hh : i = (T.mergeSort leP).length - 1
  · subst hh
    exact Int.le_refl _
  · exact List.pairwise_iff_getElem.mp pw i _ hi (by omega) (by omega)
theorem all_hd (T : List (Int × Int)) : (T.map prD).all intHd = true := List.all_eq_true.mpr fun d m => by
  obtain ⟨p, _, rfl⟩ := List.mem_map.mp m
  rfl
theorem sSortHd_own {v : Nat} {δ : DEnv} {ds : List D} (h : lendable δ v = some (.list ds)) (hi : ds.all intHd = true) : sSortHd v δ = .next (putD v (.list (sortHd ds)) δ) := by
  unfold sSortHd isLst onList
  rw [h]
  show (if true = true then (if ds.all intHd = true then RS.next _ else RS.bad) else RS.bad) = _
  rw [if_pos rfl, if_pos hi]
theorem eqE_l (ds : List D) : eqE (.list ds) (.list []) = some (.bool ds.isEmpty) := rfl
theorem at_last {α : Type} {xs : List α} {x : α} (h : xs.getLast? = some x) : atI xs (-1) = some x := by
  have ne : xs ≠ [] := fun z => by
    rw [z] at h
    cases h
  have l : 0 < xs.length := List.length_pos_iff.mpr ne
  unfold atI ixN
  rw [if_neg (by omega), if_pos (by omega)]
  show xs[((-1 : Int) + (xs.length : Int)).toNat]? = some x
  rw [List.getLast?_eq_getElem?] at h
  rw [← h]
  congr 1
  omega
/-- deepest -/
theorem sort_next (n : Str) (X : D) (T : List (Int × Int)) : sSortHd 2 [some (.val (.str n)), some (.val X), some (.own (.list (T.map prD))), none, none, none] = .next [some (.val (.str n)), some (.val X), some (.own (.list ((T.mergeSort leP).map prD))), none, none, none] :=
  (sSortHd_own (ds := T.map prD) rfl (all_hd _)).trans (by
    rw [sort_pr]
    rfl)
theorem deep_no (n : Str) (L : List Ly) (hl : L.length ≤ 1000) (h : toldL n L = []) : m_deepest [.val (.str n), .val (.list (L.map lyD))] = .ok (.val .none) [none, none] := by
  have c := told_c n L hl
  rw [h] at c
  have so := sort_next n (.list (L.map lyD)) []
  have z : (([] : List (Int × Int)).mergeSort leP).map prD = [] := by simp
  rw [z] at so
  have eq : eqE (.list []) (.list []) = some (.bool true) := rfl
  unfold m_deepest
  rw [start _ _ _ _ (by rfl)]
  unfold F_deepest
  generalize C_deepest_1 = C at *
  generalize L.map lyD = X at *
  simp only [List.map_nil] at c so
  simp! [c, so, eq]
theorem deep_ex (n : Str) (L : List Ly) (hl : L.length ≤ 1000) (h : toldL n L ≠ []) : ∃ v, m_deepest [.val (.str n), .val (.list (L.map lyD))] = .ok (.val (.int v)) [none, none] ∧ Top (toldL n L) v := by
  have c := told_c n L hl
  obtain ⟨p, gl, tp⟩ := last_top h
  refine ⟨p.2, ?_, tp⟩
  have so := sort_next n (.list (L.map lyD)) (toldL n L)
  generalize hS : (toldL n L).mergeSort leP = S at *
  have ne : S ≠ [] := fun z => by
    rw [z] at gl
    cases gl
  have eq : eqE (.list (S.map prD)) (.list []) = some (.bool false) := by
    rw [eqE_l]
    cases S with
    | nil => exact absurd rfl ne
    | cons _ _ => rfl
  have it : itF (.list (S.map prD)) (.int (-1)) = some (prD p) := at_last (by rw [List.getLast?_map, gl]; rfl)
  have it2 : itF (prD p) (.int 1) = some (.int p.2) := rfl
  unfold m_deepest
  rw [start _ _ _ _ (by rfl)]
  unfold F_deepest
  generalize C_deepest_1 = C at *
  generalize L.map lyD = X at *
  generalize S.map prD = Y at *
  generalize (toldL n L).map prD = Z at *
  generalize prD p = pd at *
  simp! [c, so, eq, it, it2]
/-! ### what makes bring along -/
structure Mk where
  part : Str
  ver : D
  A : List D
  df : List (Str × Int)
  B : List D
  bs : D
def mkD (m : Mk) : D := .tuple [.str "make", .str m.part, m.ver, .tuple (m.A ++ (m.df.map dflD ++ m.B)), m.bs]
def NoDf (r : D) : Prop := ∃ w x rest, r = .tuple (.str w :: x :: rest) ∧ w ≠ "default" ∧ rest.length ≤ 10 ∧ Fc.atomD x = true
structure MkOk (m : Mk) : Prop where
  a : ∀ r ∈ m.A, NoDf r
  b : ∀ r ∈ m.B, NoDf r
  dn : (m.df.map (·.1)).Nodup
  len : m.A.length + m.df.length + m.B.length ≤ 100
abbrev brR (n : Str) (m : Mk) : List (Str × Int) := (m.df.filter fun q => decide (q.1 = n)).map fun q => (m.part, q.2)
abbrev toldM (n : Str) (M : List Mk) : List (Str × Int) := M.flatMap (brR n)
def dsD (T : List (Str × Int)) : List (D × D) := T.map fun q => (.str q.1, .int q.2)
theorem dsD_no (T : List (Str × Int)) : noT (dsD T) = true := by
  cases T <;> rfl
theorem put_ds {T : List (Str × Int)} {p : Str} {v : Int} (h : p ∉ T.map (·.1)) : putKD (dsD T) (.str p) (.int v) = dsD (T ++ [(p, v)]) := by
  have e : ((dsD T).any fun q => eqD q.1 (.str p)) = false := by
    rw [List.any_eq_false]
    intro q mq
    obtain ⟨t, mt, rfl⟩ := List.mem_map.mp mq
    rw [Fa.eqD_s, df (fun z => h (List.mem_map.mpr ⟨t, mt, z⟩))]
    exact Bool.false_ne_true
  unfold putKD
  rw [if_neg (by rw [e]; exact Bool.false_ne_true)]
  unfold dsD
  rw [List.map_append]
  rfl
theorem get_ds : ∀ {T : List (Str × Int)} {p : Str} {v : Int}, (T.map (·.1)).Nodup → (p, v) ∈ T → getKD (dsD T) (.str p) = some (.int v)
  | [], _, _, _, m => by cases m
  | q :: T, p, v, h, m => by
    rw [List.map_cons, List.nodup_cons] at h
    show (if eqD (.str q.1) (.str p) = true then some (.int q.2) else getKD (dsD T) (.str p)) = _
    rcases List.mem_cons.mp m with z | z
    · rw [← z, Fa.eqD_s, dt rfl]
      rfl
    · have ne : ¬ q.1 = p := fun y => h.1 (List.mem_map.mpr ⟨_, z, y.symm⟩)
      rw [Fa.eqD_s, df ne, if_neg Bool.false_ne_true]
      exact get_ds h.2 z
theorem sItemD_e {v : Nat} {Fi Fv : Fe D} {δ δ1 δ2 : DEnv} {ds : List (D × D)} {k d : D} (hv : Fv δ = .ok d δ1) (hs : (lendable δ1 v).isSome = true) (hi : Fi δ1 = .ok k δ2) (hl : lendable δ2 v = some (.dict ds)) (hk : keyOk k = true) (h1 : ds.length < 1000000) (h2 : noT ds = true) :
    sItemD v Fi Fv δ = .next (putD v (.dict (putKD ds k d)) δ2) := by
  unfold sItemD
  rw [hv]
  show (if (lendable δ1 v).isSome = true then _ else _) = _
  rw [if_pos hs, hi]
  show onDict v δ2 _ = _
  unfold onDict
  rw [hl]
  exact if_pos ⟨hk, h1, h2⟩
theorem forL_app {B : Bd} {Y : Fs} {ds : List D} : ∀ {cs : List D} {δ δ1 : DEnv}, sForL B Y cs δ = .next δ1 → (∀ d ∈ cs, ∀ δ δ2, Y δ = .brk δ2 → False) → sForL B Y (cs ++ ds) δ = sForL B Y ds δ1
  | [], δ, δ1, h, _ => by
    cases h
    rfl
  | c :: cs, δ, δ1, h, nb => by
    rw [List.cons_append, forL_cons]
    rw [forL_cons] at h
    cases hB : B c δ with
    | none =>
      rw [hB] at h
      cases h
    | some δ' =>
      rw [hB, for1_e] at h
      rw [for1_e]
      cases hY : Y δ' with
      | next δ2 =>
        rw [hY, for2_n] at h
        rw [for2_n]
        exact forL_app h (fun d m => nb d (List.mem_cons_of_mem _ m))
      | cont δ2 =>
        rw [hY, for2_c] at h
        rw [for2_c]
        exact forL_app h (fun d m => nb d (List.mem_cons_of_mem _ m))
      | brk δ2 => exact (nb c List.mem_cons_self _ _ hY).elim
      | _ =>
        rw [hY] at h
        cases h
/-! the program's loops. 0 name 1 makes 2 found 3 word 4 part 5 version 6 face 7 body 8 kind 9 things -/
abbrev Sb (n : Str) (X : D) (T : List (Str × Int)) (w : D) (p : Str) (ve fa bo : D) (k t : Option Cell) : DEnv :=
  [some (.val (.str n)), some (.val X), some (.own (.dict (dsD T))), some (.val w), some (.val (.str p)), some (.val ve), some (.val fa), some (.val bo), k, t]
theorem free_soft {δ : DEnv} {i : Nat} {c : Option Cell} (h : δ[i]? = some c) (s : soft c = true) : free δ i = true := by
  obtain ⟨hi, _⟩ := List.getElem?_eq_some_iff.mp h
  unfold free
  rw [h, dt hi]
  cases c with
  | none => rfl
  | some c => cases c <;> first | rfl | cases s
section
variable (n : Str) (X : D) (w : D) (p : Str) (ve fa bo : D)
theorem star_b {T : List (Str × Int)} {x : D} {ds : List D} {k t : Option Cell} (hk : soft k = true) (ht : soft t = true) (hl : ds.length ≤ 20) : bStar 8 9 (.tuple (x :: ds)) (Sb n X T w p ve fa bo k t) = some (Sb n X T w p ve fa bo (some (.val x)) (some (.val (.list ds)))) := by
  unfold bStar
  exact if_pos ⟨by omega, free_soft rfl hk, free_soft rfl ht, by decide⟩
theorem row_n {T : List (Str × Int)} {k : Str} {ts : D} (hk : k ≠ "default") : Y_brought_1 (Sb n X T w p ve fa bo (some (.val (.str k))) (some (.val ts))) = .next (Sb n X T w p ve fa bo (some (.val (.str k))) (some (.val ts))) := by
  have e : eqF (.str k) (.str "default") = some (.bool false) := by rw [eqF_s, df hk]
  unfold Y_brought_1
  unfold Sb
  generalize dsD T = Z
  simp! [e]
theorem row_o {T : List (Str × Int)} {q : Str × Int} (hq : ¬ q.1 = n) : Y_brought_1 (Sb n X T w p ve fa bo (some (.val (.str "default"))) (some (.val (.list [.str q.1, .int q.2])))) = .next (Sb n X T w p ve fa bo (some (.val (.str "default"))) (some (.val (.list [.str q.1, .int q.2])))) := by
  have e : eqF (.str "default") (.str "default") = some (.bool true) := rfl
  have e2 : eqF (.str q.1) (.str n) = some (.bool false) := by rw [eqF_s, df hq]
  unfold Y_brought_1
  unfold Sb
  generalize dsD T = Z
  simp! [e, e2]
theorem row_d {T : List (Str × Int)} {v : Int} (hp : p ∉ T.map (·.1)) (hl : T.length ≤ 1000) : Y_brought_1 (Sb n X T w p ve fa bo (some (.val (.str "default"))) (some (.val (.list [.str n, .int v])))) = .next (Sb n X (T ++ [(p, v)]) w p ve fa bo (some (.val (.str "default"))) (some (.val (.list [.str n, .int v])))) := by
  have e : eqF (.str "default") (.str "default") = some (.bool true) := rfl
  have e2 : eqF (.str n) (.str n) = some (.bool true) := by rw [eqF_s, dt rfl]
  have i := sItemD_e (v := 2) (Fi := rdVar 4) (Fv := fBin itF (pkVar 9) (fOf (fC (.int 1)))) (δ := Sb n X T w p ve fa bo (some (.val (.str "default"))) (some (.val (.list [.str n, .int v])))) rfl rfl rfl rfl rfl (by
    unfold dsD
    rw [List.length_map]
    omega) (dsD_no T)
  rw [put_ds hp] at i
  have i2 : sItemD 2 (rdVar 4) (fBin itF (pkVar 9) (fOf (fC (.int 1)))) (Sb n X T w p ve fa bo (some (.val (.str "default"))) (some (.val (.list [.str n, .int v])))) = .next (Sb n X (T ++ [(p, v)]) w p ve fa bo (some (.val (.str "default"))) (some (.val (.list [.str n, .int v])))) := i
  unfold Y_brought_1
  unfold Sb at *
  generalize dsD T = Z at *
  generalize dsD (T ++ [(p, v)]) = Z2 at *
  simp! [e, e2, i2]
theorem rows_n : ∀ (rows : List D), (∀ r ∈ rows, NoDf r) → ∀ (T : List (Str × Int)) (k t : Option Cell), soft k = true → soft t = true → ∃ k' t', sForL (bStar 8 9) Y_brought_1 rows (Sb n X T w p ve fa bo k t) = .next (Sb n X T w p ve fa bo k' t') ∧ soft k' = true ∧ soft t' = true
  | [], _, T, k, t, hk, ht => ⟨k, t, rfl, hk, ht⟩
  | r :: rows, h, T, k, t, hk, ht => by
    obtain ⟨w1, x, rest, rfl, ne, hl, _⟩ := h r List.mem_cons_self
    obtain ⟨k', t', e, h1, h2⟩ := rows_n rows (fun r m => h r (List.mem_cons_of_mem _ m)) T (some (.val (.str w1))) (some (.val (.list (x :: rest)))) rfl rfl
    refine ⟨k', t', ?_, h1, h2⟩
    rw [forL_cons, star_b n X w p ve fa bo hk ht (by simp only [List.length_cons]; omega), for1_e, row_n n X w p ve fa bo ne, for2_n]
    exact e
theorem rows_o : ∀ (l : List (Str × Int)), (∀ q ∈ l, ¬ q.1 = n) → ∀ (T : List (Str × Int)) (k t : Option Cell), soft k = true → soft t = true → ∃ k' t', sForL (bStar 8 9) Y_brought_1 (l.map dflD) (Sb n X T w p ve fa bo k t) = .next (Sb n X T w p ve fa bo k' t') ∧ soft k' = true ∧ soft t' = true
  | [], _, T, k, t, hk, ht => ⟨k, t, rfl, hk, ht⟩
  | q :: l, h, T, k, t, hk, ht => by
    obtain ⟨k', t', e, h1, h2⟩ := rows_o l (fun r m => h r (List.mem_cons_of_mem _ m)) T (some (.val (.str "default"))) (some (.val (.list [.str q.1, .int q.2]))) rfl rfl
    refine ⟨k', t', ?_, h1, h2⟩
    show sForL _ _ (PyData.tuple [.str "default", .str q.1, .int q.2] :: l.map dflD) _ = _
    rw [forL_cons, star_b n X w p ve fa bo hk ht (by simp), for1_e, row_o n X w p ve fa bo (h q List.mem_cons_self), for2_n]
    exact e
theorem no_br {l : List (Str × Int)} (h : ∀ q ∈ l, ¬ q.1 = n) : ((l.filter fun q => decide (q.1 = n)).map fun q => (p, q.2)) = [] := by
  rw [List.filter_eq_nil_iff.mpr (fun q m z => h q m (of_decide_eq_true z))]
  rfl
theorem rows_d : ∀ (l : List (Str × Int)), (l.map (·.1)).Nodup → ∀ (T : List (Str × Int)) (k t : Option Cell), T.length ≤ 1000 → p ∉ T.map (·.1) → soft k = true → soft t = true → ∃ k' t', sForL (bStar 8 9) Y_brought_1 (l.map dflD) (Sb n X T w p ve fa bo k t) = .next (Sb n X (T ++ (l.filter fun q => decide (q.1 = n)).map fun q => (p, q.2)) w p ve fa bo k' t') ∧ soft k' = true ∧ soft t' = true
  | [], _, T, k, t, _, _, hk, ht => ⟨k, t, by
    rw [show ((([] : List (Str × Int)).filter fun q => decide (q.1 = n)).map fun q => (p, q.2)) = [] from rfl, List.append_nil]
    rfl, hk, ht⟩
  | q :: l, h, T, k, t, hl, hp, hk, ht => by
    rw [List.map_cons, List.nodup_cons] at h
    by_cases hq : q.1 = n
    · have no : ∀ r ∈ l, ¬ r.1 = n := fun r m z => h.1 (List.mem_map.mpr ⟨r, m, z.trans hq.symm⟩)
      have ef : ((q :: l).filter fun q => decide (q.1 = n)).map (fun q => (p, q.2)) = [(p, q.2)] := by
        rw [List.filter_cons_of_pos (by rw [dt hq]), List.map_cons, no_br n p no]
      rw [ef]
      obtain ⟨k', t', e, h1, h2⟩ := rows_o n X w p ve fa bo l no (T ++ [(p, q.2)]) (some (.val (.str "default"))) (some (.val (.list [.str n, .int q.2]))) rfl rfl
      refine ⟨k', t', ?_, h1, h2⟩
      show sForL _ _ (PyData.tuple [.str "default", .str q.1, .int q.2] :: l.map dflD) _ = _
      rw [hq, forL_cons, star_b n X w p ve fa bo hk ht (by simp), for1_e, row_d n X w p ve fa bo hp hl, for2_n]
      exact e
    · have ef : ((q :: l).filter fun q => decide (q.1 = n)) = l.filter fun q => decide (q.1 = n) := List.filter_cons_of_neg (by rw [df hq]; exact Bool.false_ne_true)
      rw [ef]
      obtain ⟨k', t', e, h1, h2⟩ := rows_d l h.2 T (some (.val (.str "default"))) (some (.val (.list [.str q.1, .int q.2]))) hl hp rfl rfl
      refine ⟨k', t', ?_, h1, h2⟩
      show sForL _ _ (PyData.tuple [.str "default", .str q.1, .int q.2] :: l.map dflD) _ = _
      rw [forL_cons, star_b n X w p ve fa bo hk ht (by simp), for1_e, row_o n X w p ve fa bo hq, for2_n]
      exact e
end
theorem for_gB {I : Fe (List D)} {B : Bd} {Y : Fs} {δ δ1 : DEnv} {l : List D} {r : RS} (h : I δ = .ok l δ1) (e : sForL B Y l δ1 = r) : sFor I B Y δ = r := by
  show (I δ).bindS _ = _
  rw [h]
  exact e
theorem row_nb (d : D) (δ δ2 : DEnv) : Y_brought_1 δ = .brk δ2 → False := by
  intro h
  unfold Y_brought_1 sIf at h
  revert h
  generalize (fAnd (fB (fBin eqF (pkVar 8) (fOf (fC (.str "default"))))) (fB (fBin eqF (fOf (fBin itF (pkVar 9) (fOf (fC (.int 0))))) (pkVar 0)))) δ = r
  intro h
  cases r with
  | ok c δ3 =>
    cases c with
    | true =>
      revert h
      show sItemD _ _ _ δ3 = _ → False
      unfold sItemD
      generalize (fBin itF (pkVar 9) (fOf (fC (.int 1)))) δ3 = r
      intro h
      cases r with
      | ok c δ4 =>
        change (if _ then _ else _) = _ at h
        split at h
        · revert h
          generalize (rdVar 4) δ4 = r
          intro h
          cases r with
          | ok c δ5 =>
            change onDict _ _ _ = _ at h
            unfold onDict at h
            split at h
            · dsimp only at h
              split at h <;> cases h
            · cases h
          | _ => cases h
        · cases h
      | _ => cases h
    | false => cases h
  | _ => cases h
/-- one make's rows -/
theorem face_b (n : Str) (X : D) (m : Mk) (ok : MkOk m) (T : List (Str × Int)) (k t : Option Cell) (hl : T.length ≤ 1000) (hp : m.part ∉ T.map (·.1)) (hk : soft k = true) (ht : soft t = true) :
    ∃ k' t', L_brought_1 (Sb n X T (.str "make") m.part m.ver (.tuple (m.A ++ (m.df.map dflD ++ m.B))) m.bs k t) = .next (Sb n X (T ++ brR n m) (.str "make") m.part m.ver (.tuple (m.A ++ (m.df.map dflD ++ m.B))) m.bs k' t') ∧ soft k' = true ∧ soft t' = true := by
  obtain ⟨k1, t1, e1, s1, s1'⟩ := rows_n n X (.str "make") m.part m.ver (.tuple (m.A ++ (m.df.map dflD ++ m.B))) m.bs m.A ok.a T k t hk ht
  obtain ⟨k2, t2, e2, s2, s2'⟩ := rows_d n X (.str "make") m.part m.ver (.tuple (m.A ++ (m.df.map dflD ++ m.B))) m.bs m.df ok.dn T k1 t1 hl hp s1 s1'
  obtain ⟨k3, t3, e3, s3, s3'⟩ := rows_n n X (.str "make") m.part m.ver (.tuple (m.A ++ (m.df.map dflD ++ m.B))) m.bs m.B ok.b (T ++ brR n m) k2 t2 s2 s2'
  refine ⟨k3, t3, ?_, s3, s3'⟩
  have hI : I_brought_1 (Sb n X T (.str "make") m.part m.ver (.tuple (m.A ++ (m.df.map dflD ++ m.B))) m.bs k t) = .ok (m.A ++ (m.df.map dflD ++ m.B)) (Sb n X T (.str "make") m.part m.ver (.tuple (m.A ++ (m.df.map dflD ++ m.B))) m.bs k t) := by
    unfold I_brought_1
    unfold Sb
    generalize dsD T = Z at *
    generalize (m.A ++ (m.df.map dflD ++ m.B)) = R at *
    simp! []
  unfold L_brought_1
  refine for_gB hI ?_
  rw [forL_app e1 (fun d _ => row_nb d), forL_app e2 (fun d _ => row_nb d)]
  exact e3
/-- the makes -/
theorem makes_b (n : Str) (X : D) : ∀ (M : List Mk) (T : List (Str × Int)) (x3 x4 x5 x6 x7 k t : Option Cell), (∀ m ∈ M, MkOk m) → (M.map (·.part)).Nodup → (∀ m ∈ M, m.part ∉ T.map (·.1)) → T.length + M.length ≤ 1000 → soft x3 = true → soft x4 = true → soft x5 = true → soft x6 = true → soft x7 = true → soft k = true → soft t = true →
    ∃ δ, sForL (bTup 5 (bCons (bName 3) (bCons (bName 4) (bCons (bName 5) (bCons (bName 6) (bCons (bName 7) bNil)))))) Y_brought_2 (M.map mkD) [some (.val (.str n)), some (.val X), some (.own (.dict (dsD T))), x3, x4, x5, x6, x7, k, t] = .next δ ∧ ∃ y3 y4 y5 y6 y7 y8 y9, δ = [some (.val (.str n)), some (.val X), some (.own (.dict (dsD (T ++ toldM n M)))), y3, y4, y5, y6, y7, y8, y9]
  | [], T, x3, x4, x5, x6, x7, k, t, _, _, _, _, _, _, _, _, _, _, _ => ⟨_, rfl, x3, x4, x5, x6, x7, k, t, by
    rw [show toldM n [] = [] from rfl, List.append_nil]⟩
  | m :: M, T, x3, x4, x5, x6, x7, k, t, ok, nd, hp, hl, s3, s4, s5, s6, s7, hk, ht => by
    rw [List.map_cons, List.nodup_cons] at nd
    simp only [List.length_cons] at hl
    have okm := ok m List.mem_cons_self
    have lb : (brR n m).length ≤ 1 := by
      unfold brR
      rw [List.length_map]
      have : ∀ (l : List (Str × Int)), (l.map (·.1)).Nodup → (l.filter fun q => decide (q.1 = n)).length ≤ 1 := fun l => by
        induction l with
        | nil => intro _; exact Nat.zero_le _
        | cons q l ih =>
          intro h
          rw [List.map_cons, List.nodup_cons] at h
          by_cases hq : q.1 = n
          · rw [List.filter_cons_of_pos (by rw [dt hq]), List.filter_eq_nil_iff.mpr (fun r mr z => h.1 (List.mem_map.mpr ⟨r, mr, (of_decide_eq_true z).trans hq.symm⟩))]
            exact Nat.le_refl _
          · rw [List.filter_cons_of_neg (by rw [df hq]; exact Bool.false_ne_true)]
            exact ih h.2
      exact this m.df okm.dn
    obtain ⟨k', t', e, h1, h2⟩ := face_b n X m okm T k t (by omega) (hp m List.mem_cons_self) hk ht
    obtain ⟨δ, e2, y3, y4, y5, y6, y7, y8, y9, e3⟩ := makes_b n X M (T ++ brR n m) (some (.val (.str "make"))) (some (.val (.str m.part))) (some (.val m.ver)) (some (.val (.tuple (m.A ++ (m.df.map dflD ++ m.B))))) (some (.val m.bs)) k' t' (fun r mr => ok r (List.mem_cons_of_mem _ mr)) nd.2 (fun r mr z => by
      rw [List.map_append] at z
      rcases List.mem_append.mp z with z | z
      · exact hp r (List.mem_cons_of_mem _ mr) z
      · obtain ⟨q, mq, eq⟩ := List.mem_map.mp z
        obtain ⟨q2, _, rfl⟩ := List.mem_map.mp mq
        exact nd.1 (List.mem_map.mpr ⟨r, mr, eq.symm⟩)) (by rw [List.length_append]; omega) rfl rfl rfl rfl rfl h1 h2
    refine ⟨δ, ?_, y3, y4, y5, y6, y7, y8, y9, by
      rw [e3]
      show _ = ([_, _, some (Cell.own (.dict (dsD (T ++ (brR n m ++ toldM n M))))), _, _, _, _, _, _, _] : DEnv)
      rw [List.append_assoc]⟩
    rw [List.map_cons, forL_cons]
    have hB : (bTup 5 (bCons (bName 3) (bCons (bName 4) (bCons (bName 5) (bCons (bName 6) (bCons (bName 7) bNil)))))) (mkD m) [some (.val (.str n)), some (.val X), some (.own (.dict (dsD T))), x3, x4, x5, x6, x7, k, t] = some (Sb n X T (.str "make") m.part m.ver (.tuple (m.A ++ (m.df.map dflD ++ m.B))) m.bs k t) := by
      unfold Sb mkD
      generalize dsD T = Z at *
      generalize (m.A ++ (m.df.map dflD ++ m.B)) = R at *
      simp! [s3, s4, s5, s6, s7, bTup_e]
    rw [hB, for1_e]
    show for2 _ _ _ (L_brought_1 _) = _
    rw [e, for2_n]
    exact e2
theorem told_nd (n : Str) : ∀ (M : List Mk), (∀ m ∈ M, MkOk m) → (M.map (·.part)).Nodup → ((toldM n M).map (·.1)).Nodup
  | [], _, _ => .nil
  | m :: M, ok, nd => by
    rw [List.map_cons, List.nodup_cons] at nd
    show ((brR n m ++ toldM n M).map (·.1)).Nodup
    rw [List.map_append]
    refine List.nodup_append.mpr ⟨?_, told_nd n M (fun r mr => ok r (List.mem_cons_of_mem _ mr)) nd.2, fun a ma c mc z => ?_⟩
    · have h := (ok m List.mem_cons_self).dn
      revert h
      unfold brR
      generalize m.df = l
      induction l with
      | nil => intro _; exact .nil
      | cons q l ih =>
        intro h
        rw [List.map_cons, List.nodup_cons] at h
        by_cases hq : q.1 = n
        · rw [List.filter_cons_of_pos (by rw [dt hq]), List.filter_eq_nil_iff.mpr (fun r mr z => h.1 (List.mem_map.mpr ⟨r, mr, (of_decide_eq_true z).trans hq.symm⟩))]
          simp
        · rw [List.filter_cons_of_neg (by rw [df hq]; exact Bool.false_ne_true)]
          exact ih h.2
    · obtain ⟨q, mq, rfl⟩ := List.mem_map.mp ma
      obtain ⟨q2, _, rfl⟩ := List.mem_map.mp mq
      obtain ⟨r, mr, rfl⟩ := List.mem_map.mp mc
      obtain ⟨m2, mm2, mr2⟩ := List.mem_flatMap.mp mr
      obtain ⟨q3, _, rfl⟩ := List.mem_map.mp mr2
      exact nd.1 (List.mem_map.mpr ⟨m2, mm2, z.symm⟩)
theorem told_len (n : Str) (M : List Mk) (ok : ∀ m ∈ M, MkOk m) : (toldM n M).length ≤ M.length * 100 := by
  induction M with
  | nil => exact Nat.zero_le _
  | cons m M ih =>
    have h1 := ih (fun r mr => ok r (List.mem_cons_of_mem _ mr))
    have h2 := (ok m List.mem_cons_self).len
    show (brR n m ++ toldM n M).length ≤ _
    have h3 : (brR n m).length ≤ m.df.length := by
      unfold brR
      rw [List.length_map]
      exact List.length_filter_le _ _
    rw [List.length_append, List.length_cons]
    omega
def optD : Option Int → D
  | none => .none
  | some v => .int v
/-- what is told, of what the makes bring along -/
def LeastO (T : List (Str × Int)) : Option Int → Prop
  | none => T = []
  | some v => Least T v
theorem brought_ex (n : Str) (M : List Mk) (ok : ∀ m ∈ M, MkOk m) (nd : (M.map (·.part)).Nodup) (hl : M.length ≤ 500) : ∃ o, m_brought [.val (.str n), .val (.list (M.map mkD))] = .ok (.val (optD o)) [none, none] ∧ LeastO (toldM n M) o := by
  obtain ⟨δ, e, y3, y4, y5, y6, y7, y8, y9, eδ⟩ := makes_b n (.list (M.map mkD)) M [] none none none none none none none ok nd (fun m _ z => by cases z) (by simp only [List.length_nil]; omega) rfl rfl rfl rfl rfl rfl rfl
  subst eδ
  have hI : I_brought_2 [some (.val (.str n)), some (.val (.list (M.map mkD))), some (.own (.dict (dsD []))), none, none, none, none, none, none, none] = .ok (M.map mkD) [some (.val (.str n)), some (.val (.list (M.map mkD))), some (.own (.dict (dsD []))), none, none, none, none, none, none, none] := by
    unfold I_brought_2
    generalize M.map mkD = R at *
    generalize dsD [] = Z at *
    simp! []
  have hL : L_brought_2 [some (.val (.str n)), some (.val (.list (M.map mkD))), some (.own (.dict [])), none, none, none, none, none, none, none] = _ := for_gB hI e
  have d0 : okDct [] = some (.dict []) := rfl
  have tn := told_nd n M ok nd
  rw [List.nil_append] at hL
  generalize toldM n M = T at *
  cases T with
  | nil =>
    refine ⟨none, ?_, rfl⟩
    have q : eqK (.dict (dsD [])) (.dict []) = some (.bool true) := rfl
    unfold m_brought
    rw [start _ _ _ _ (by rfl)]
    unfold F_brought
    generalize M.map mkD = R at *
    generalize L_brought_2 = LL at *
    generalize dsD [] = Z at *
    simp! [d0, hL, q, optD]
  | cons p T =>
    obtain ⟨r, e1, mr, hr⟩ := min_key p T
    refine ⟨some r.2, ?_, r.1, mr, hr⟩
    have q : eqK (.dict (dsD (p :: T))) (.dict []) = some (.bool false) := rfl
    have mk : minKD [.dict (dsD (p :: T))] = some (.str r.1) := by
      have ks : (dsD T).map (·.1) = T.map fun q => .str q.1 := by
        unfold dsD
        rw [List.map_map]
        rfl
      show (if isTx (.str p.1) = true ∧ ((dsD T).all fun q => isTx q.1) = true then some (PySem.W.minD (.str p.1) ((dsD T).map (·.1))) else none) = _
      rw [if_pos ⟨rfl, List.all_eq_true.mpr fun q mq => by
        obtain ⟨t, _, rfl⟩ := List.mem_map.mp mq
        rfl⟩, ks, e1]
    have gd : dixF (.dict (dsD (p :: T))) (.str r.1) = some (.int r.2) := by
      show (if keyOk (.str r.1) = true then getKD (dsD (p :: T)) (.str r.1) else none) = _
      rw [if_pos (show keyOk (.str r.1) = true from rfl)]
      exact get_ds tn mr
    have fd : (fDIx (pkVar 2) (fCall minKD (lCons (pkVar 2) lNil))) [some (.val (.str n)), some (.val (.list (M.map mkD))), some (.own (.dict (dsD (p :: T)))), y3, y4, y5, y6, y7, y8, y9] = .ok (.int r.2) [some (.val (.str n)), some (.val (.list (M.map mkD))), some (.own (.dict (dsD (p :: T)))), y3, y4, y5, y6, y7, y8, y9] := by
      show ((fCall minKD (lCons (pkVar 2) lNil)) _).bind _ = _
      have c : (fCall minKD (lCons (pkVar 2) lNil)) [some (.val (.str n)), some (.val (.list (M.map mkD))), some (.own (.dict (dsD (p :: T)))), y3, y4, y5, y6, y7, y8, y9] = .ok (.str r.1) [some (.val (.str n)), some (.val (.list (M.map mkD))), some (.own (.dict (dsD (p :: T)))), y3, y4, y5, y6, y7, y8, y9] := by
        generalize M.map mkD = R at *
        generalize dsD (p :: T) = Z at *
        simp! [mk]
      rw [c]
      show R.of (dixF (.dict (dsD (p :: T))) (.str r.1)) _ = _
      rw [gd]
      rfl
    unfold m_brought
    rw [start _ _ _ _ (by rfl)]
    unfold F_brought
    generalize M.map mkD = R at *
    generalize L_brought_2 = LL at *
    generalize dsD (p :: T) = Z at *
    simp! [d0, hL, q, fd, optD]
/-! ### comprehensions over things that are told by their code -/
theorem comp_enc {α : Type} {i : Nat} {I : Fe (List D)} {T : Fe Bool} {E : Fe D} {δ δ1 : DEnv} {xs : List α} (enc : α → D) (p : α → Bool) (g : α → D) (hI : I δ = .ok (xs.map enc) δ1) (hi : i < δ1.length) (hc : calmAt δ1 [i] = true) (hn : xs.length ≤ 1000000)
    (h : ∀ x ∈ xs, T (δ1.set i (some (.val (enc x)))) = .ok (p x) (δ1.set i (some (.val (enc x)))) ∧ (p x = true → E (δ1.set i (some (.val (enc x)))) = .ok (g x) (δ1.set i (some (.val (enc x)))))) :
    fComp [i] I (bName i) T E δ = .ok (.list ((xs.filter p).map g)) δ1 := by
  have e := comp_map (I := I) (T := T) (E := E) (δ := δ) (δ1 := δ1) (ds := xs.map enc) (i := i) (fun d => match T (δ1.set i (some (.val d))) with
    | .ok c _ => c
    | _ => false) (fun d => match E (δ1.set i (some (.val d))) with
    | .ok c _ => c
    | _ => .none) hI hi hc (by rw [List.length_map]; exact hn) (fun d md => by
    obtain ⟨x, mx, rfl⟩ := List.mem_map.mp md
    obtain ⟨h1, h2⟩ := h x mx
    rw [h1]
    refine ⟨rfl, fun hp => ?_⟩
    rw [h2 hp])
  rw [e]
  congr 2
  clear e hI hn
  induction xs with
  | nil => rfl
  | cons x xs ih =>
    have ih := ih (fun y m => h y (List.mem_cons_of_mem _ m))
    obtain ⟨h1, h2⟩ := h x List.mem_cons_self
    rw [List.map_cons]
    cases hp : p x with
    | true =>
      rw [List.filter_cons_of_pos (by rw [h1]; exact hp), List.filter_cons_of_pos hp, List.map_cons, List.map_cons, ih]
      congr 1
      rw [h2 hp]
    | false =>
      rw [List.filter_cons_of_neg (by rw [h1]; dsimp only; rw [hp]; exact Bool.false_ne_true), List.filter_cons_of_neg (by rw [hp]; exact Bool.false_ne_true), ih]
/-! ### what is told -/
structure LyOk (L : List Ly) : Prop where
  nd : (L.map fun l => (l.1, l.2.1)).Nodup
  nb : ∀ l ∈ L, numOk l.2.2
  tl : ∀ l ∈ L, T1 (lyD l) 300
structure MsOk (M : List Mk) : Prop where
  ok : ∀ m ∈ M, MkOk m
  nd : (M.map (·.part)).Nodup
  nb : ∀ m ∈ M, ∀ q ∈ m.df, numOk q.2
  tm : ∀ m ∈ M, T1 (mkD m) 150000 ∧ PyData.depth (mkD m) ≤ 8
def Told (n : Str) (L : List Ly) (M : List Mk) (o : Option Int) : Prop :=
  (toldL n L = [] ∧ LeastO (toldM n M) o) ∨ (toldL n L ≠ [] ∧ ∃ v, o = some v ∧ Top (toldL n L) v)
theorem toldL_nd (n : Str) : ∀ {L : List Ly}, (L.map fun l => (l.1, l.2.1)).Nodup → ((toldL n L).map (·.1)).Nodup
  | [], _ => .nil
  | l :: L, h => by
    rw [List.map_cons, List.nodup_cons] at h
    have ih := toldL_nd n h.2
    by_cases hn : l.2.1 = n
    · have e : toldL n (l :: L) = (l.1, l.2.2) :: toldL n L := by
        unfold toldL
        rw [List.filter_cons_of_pos (by rw [dt hn]), List.map_cons]
      rw [e, List.map_cons, List.nodup_cons]
      refine ⟨fun m => ?_, ih⟩
      obtain ⟨q, mq, eq⟩ := List.mem_map.mp m
      obtain ⟨l2, m2, rfl⟩ := List.mem_map.mp mq
      obtain ⟨m2, hn2⟩ := List.mem_filter.mp m2
      have hn2 : l2.2.1 = n := of_decide_eq_true hn2
      exact h.1 (List.mem_map.mpr ⟨l2, m2, by
        have e1 : l2.1 = l.1 := eq
        rw [e1, hn2, hn]⟩)
    · have e : toldL n (l :: L) = toldL n L := by
        unfold toldL
        rw [List.filter_cons_of_neg (by rw [df hn]; exact Bool.false_ne_true)]
      rw [e]
      exact ih
theorem LeastO.one {T : List (Str × Int)} {o o' : Option Int} (h : (T.map (·.1)).Nodup) (a : LeastO T o) (c : LeastO T o') : o = o' := by
  cases o with
  | none =>
    cases o' with
    | none => rfl
    | some w =>
      have e : T = [] := a
      obtain ⟨_, m, _⟩ := c
      rw [e] at m
      cases m
  | some v =>
    cases o' with
    | none =>
      have e : T = [] := c
      obtain ⟨_, m, _⟩ := a
      rw [e] at m
      cases m
    | some w => rw [Best.one leT_anti h a c]
theorem LeastO.perm {T U : List (Str × Int)} {o : Option Int} (p : T.Perm U) (h : LeastO T o) : LeastO U o := by
  cases o with
  | none =>
    have e : T = [] := h
    rw [e] at p
    exact p.nil_eq.symm
  | some v => exact Best.perm p h
theorem Told.one {n : Str} {L : List Ly} {M : List Mk} {o o' : Option Int} (hL : LyOk L) (hM : MsOk M) (a : Told n L M o) (c : Told n L M o') : o = o' := by
  rcases a with ⟨a1, a2⟩ | ⟨a1, v, rfl, a2⟩
  · rcases c with ⟨c1, c2⟩ | ⟨c1, _⟩
    · exact LeastO.one (told_nd n M hM.ok hM.nd) a2 c2
    · exact absurd a1 c1
  · rcases c with ⟨c1, _⟩ | ⟨_, w, rfl, c2⟩
    · exact absurd c1 a1
    · rw [Best.one geI_anti (toldL_nd n hL.nd) a2 c2]
theorem Told.perm {n : Str} {L L' : List Ly} {M M' : List Mk} {o : Option Int} (pL : L.Perm L') (pM : M.Perm M') (h : Told n L M o) : Told n L' M' o := by
  have p1 : (toldL n L).Perm (toldL n L') := (pL.filter _).map _
  have p2 : (toldM n M).Perm (toldM n M') := pM.flatMap_right _
  rcases h with ⟨h1, h2⟩ | ⟨h1, v, rfl, h2⟩
  · refine .inl ⟨?_, LeastO.perm p2 h2⟩
    rw [h1] at p1
    exact p1.nil_eq.symm
  · refine .inr ⟨fun z => h1 ?_, v, rfl, Best.perm p1 h2⟩
    rw [z] at p1
    exact p1.eq_nil
theorem LyOk.perm {L L' : List Ly} (p : L.Perm L') (h : LyOk L) : LyOk L' := ⟨(p.map _).nodup_iff.mp h.nd, fun l m => h.nb l (p.mem_iff.mpr m), fun l m => h.tl l (p.mem_iff.mpr m)⟩
theorem MsOk.perm {L L' : List Mk} (p : L.Perm L') (h : MsOk L) : MsOk L' := ⟨fun l m => h.ok l (p.mem_iff.mpr m), (p.map _).nodup_iff.mp h.nd, fun l m => h.nb l (p.mem_iff.mpr m), fun l m => h.tm l (p.mem_iff.mpr m)⟩
theorem Told.small {n : Str} {L : List Ly} {M : List Mk} {v : Int} (hL : LyOk L) (hM : MsOk M) (h : Told n L M (some v)) : numOk v := by
  rcases h with ⟨_, k, m, _⟩ | ⟨_, w, e, k, m, _⟩
  · obtain ⟨mk, m1, m2⟩ := List.mem_flatMap.mp m
    obtain ⟨q, mq, e⟩ := List.mem_map.mp m2
    have := hM.nb mk m1 q (List.mem_filter.mp mq).1
    injection e with _ e
    rw [← e]
    exact this
  · cases e
    obtain ⟨l, ml, e⟩ := List.mem_map.mp m
    have := hL.nb l (List.mem_filter.mp ml).1
    injection e with _ e
    rw [← e]
    exact this
theorem setting_ex (n : Str) (L : List Ly) (M : List Mk) (hM : MsOk M) (hl : L.length ≤ 1000) (hm : M.length ≤ 500) : ∃ o, m_setting_of [.val (.str n), .val (.list (L.map lyD)), .val (.list (M.map mkD))] = .ok (.val (optD o)) [none, none, none] ∧ Told n L M o := by
  by_cases h : toldL n L = []
  · have d := deep_no n L hl h
    obtain ⟨o, e, t⟩ := brought_ex n M hM.ok hM.nd hm
    refine ⟨o, ?_, .inl ⟨h, t⟩⟩
    have i : isF .none .none = some (.bool true) := rfl
    unfold m_setting_of
    rw [start _ _ _ _ (by rfl)]
    unfold F_setting_of
    generalize m_deepest = md at *
    generalize m_brought = mb at *
    generalize L.map lyD = X at *
    generalize M.map mkD = Y at *
    generalize optD o = r at *
    simp! [d, e, i]
  · obtain ⟨v, d, t⟩ := deep_ex n L hl h
    refine ⟨some v, ?_, .inr ⟨h, v, rfl, t⟩⟩
    have i : isF (.int v) .none = some (.bool false) := rfl
    unfold m_setting_of
    rw [start _ _ _ _ (by rfl)]
    unfold F_setting_of
    generalize m_deepest = md at *
    generalize m_brought = mb at *
    generalize L.map lyD = X at *
    generalize M.map mkD = Y at *
    simp! [d, i, optD]
/-! ### the law's own reading -/
theorem prs_flat : ∀ (T : List (Int × Int)), PyData.plainAll (T.map prD) = true ∧ PyData.depthAll (T.map prD) ≤ 2
  | [] => ⟨rfl, Nat.zero_le _⟩
  | p :: T => by
    obtain ⟨h1, h2⟩ := prs_flat T
    refine ⟨?_, ?_⟩
    · show (PyData.plain (prD p) && PyData.plainAll (T.map prD)) = true
      rw [h1]
      rfl
    · show max (PyData.depth (prD p)) (PyData.depthAll (T.map prD)) ≤ 2
      have : PyData.depth (prD p) ≤ 2 := by
        simp [prD, PyData.depth, PyData.depthAll]
      omega
theorem pss_flat : ∀ (T : List (Str × Int)), PyData.plainAll (T.map psD) = true ∧ PyData.depthAll (T.map psD) ≤ 2
  | [] => ⟨rfl, Nat.zero_le _⟩
  | p :: T => by
    obtain ⟨h1, h2⟩ := pss_flat T
    refine ⟨?_, ?_⟩
    · show (PyData.plain (psD p) && PyData.plainAll (T.map psD)) = true
      rw [h1]
      rfl
    · show max (PyData.depth (psD p)) (PyData.depthAll (T.map psD)) ≤ 2
      have : PyData.depth (psD p) ≤ 2 := by
        simp [psD, PyData.depth, PyData.depthAll]
      omega
theorem eq_nilL {l : List D} (h : PyData.plainAll l = true) : eqF (.list l) (.list []) = some (.bool (decide (l = []))) := by
  unfold eqF okEq
  have e1 : PyData.plain (.list l) = true := h
  have e2 : PyData.plain (.list ([] : List D)) = true := rfl
  have e3 : min (PyData.depth (.list l)) (PyData.depth (.list ([] : List D))) ≤ 60 := by
    have : PyData.depth (.list ([] : List D)) ≤ 1 := by simp [PyData.depth, PyData.depthAll]
    omega
  rw [e1, e2, dt e3, eqv_nil]
  rfl
theorem ne_nilL {l : List D} (h : PyData.plainAll l = true) : neF (.list l) (.list []) = some (.bool (!decide (l = []))) := by
  unfold neF okEq
  have e1 : PyData.plain (.list l) = true := h
  have e2 : PyData.plain (.list ([] : List D)) = true := rfl
  have e3 : min (PyData.depth (.list l)) (PyData.depth (.list ([] : List D))) ≤ 60 := by
    have : PyData.depth (.list ([] : List D)) ≤ 1 := by simp [PyData.depth, PyData.depthAll]
    omega
  rw [e1, e2, dt e3, eqv_nil]
  rfl
theorem alike_prs (T : List (Int × Int)) : alikeB (T.map prD) = true := by
  unfold alikeB
  rw [Bool.and_eq_true]
  refine ⟨List.all_eq_true.mpr fun x mx => List.all_eq_true.mpr fun y my => ?_, List.all_eq_true.mpr fun x mx => ?_⟩
  · obtain ⟨p, _, rfl⟩ := List.mem_map.mp mx
    obtain ⟨q, _, rfl⟩ := List.mem_map.mp my
    rfl
  · obtain ⟨p, _, rfl⟩ := List.mem_map.mp mx
    rfl
theorem alike_pss (T : List (Str × Int)) : alikeB (T.map psD) = true := by
  unfold alikeB
  rw [Bool.and_eq_true]
  refine ⟨List.all_eq_true.mpr fun x mx => List.all_eq_true.mpr fun y my => ?_, List.all_eq_true.mpr fun x mx => ?_⟩
  · obtain ⟨p, _, rfl⟩ := List.mem_map.mp mx
    obtain ⟨q, _, rfl⟩ := List.mem_map.mp my
    rfl
  · obtain ⟨p, _, rfl⟩ := List.mem_map.mp mx
    rfl
theorem max_prs {T : List (Int × Int)} (h : T ≠ []) : ∃ q : Int × Int, maxL [.list (T.map prD)] = some (prD q) ∧ Top T q.2 := by
  cases T with
  | nil => exact absurd rfl h
  | cons p T =>
    obtain ⟨q, e, t⟩ := max_top p T
    refine ⟨q, ?_, t⟩
    have ok : okSeq ((p :: T).map prD) = true := by
      unfold okSeq
      have f := prs_flat (p :: T)
      rw [f.1, alike_prs, dt (by omega)]
      rfl
    show (if okSeq (prD p :: T.map prD) = true then some (PySem.W.maxD (prD p) (T.map prD)) else none) = _
    rw [List.map_cons] at ok
    rw [if_pos ok, e]
theorem min_pss {T : List (Str × Int)} (h : T ≠ []) : ∃ q : Str × Int, minL [.list (T.map psD)] = some (psD q) ∧ Least T q.2 := by
  cases T with
  | nil => exact absurd rfl h
  | cons p T =>
    obtain ⟨q, e, t⟩ := min_least p T
    refine ⟨q, ?_, t⟩
    have ok : okSeq ((p :: T).map psD) = true := by
      unfold okSeq
      have f := pss_flat (p :: T)
      rw [f.1, alike_pss, dt (by omega)]
      rfl
    show (if okSeq (psD p :: T.map psD) = true then some (PySem.W.minD (psD p) (T.map psD)) else none) = _
    rw [List.map_cons] at ok
    rw [if_pos ok, e]
/-- the layers' numbers -/
theorem ztold_c (n : Str) (L : List Ly) (Y : D) (hl : L.length ≤ 1000) : C_zsetting_1 [some (.val (.str n)), some (.val (.list (L.map lyD))), some (.val Y), none, none, none, none, none] = .ok (.list ((toldL n L).map prD)) [some (.val (.str n)), some (.val (.list (L.map lyD))), some (.val Y), none, none, none, none, none] := by
  have e := comp_enc (i := 6) (I := I_zsetting_1) (T := T_zsetting_1) (E := E_zsetting_1) (δ := [some (.val (.str n)), some (.val (.list (L.map lyD))), some (.val Y), none, none, none, none, none]) (δ1 := [some (.val (.str n)), some (.val (.list (L.map lyD))), some (.val Y), none, none, none, none, none]) (xs := L) lyD (fun l => decide (l.2.1 = n)) (fun l => prD (l.1, l.2.2)) (by
    unfold I_zsetting_1
    generalize L.map lyD = X
    simp! []) (by simp) rfl (by omega) (fun l _ => by
    refine ⟨?_, fun _ => ?_⟩
    · show T_zsetting_1 [some (.val (.str n)), some (.val (.list (L.map lyD))), some (.val Y), none, none, none, some (.val (.tuple [.int l.1, .str l.2.1, .int l.2.2])), none] = .ok (decide (l.2.1 = n)) [some (.val (.str n)), some (.val (.list (L.map lyD))), some (.val Y), none, none, none, some (.val (.tuple [.int l.1, .str l.2.1, .int l.2.2])), none]
      generalize L.map lyD = X
      unfold T_zsetting_1
      simp! []
    · show E_zsetting_1 [some (.val (.str n)), some (.val (.list (L.map lyD))), some (.val Y), none, none, none, some (.val (.tuple [.int l.1, .str l.2.1, .int l.2.2])), none] = .ok (.tuple [.int l.1, .int l.2.2]) [some (.val (.str n)), some (.val (.list (L.map lyD))), some (.val Y), none, none, none, some (.val (.tuple [.int l.1, .str l.2.1, .int l.2.2])), none]
      generalize L.map lyD = X
      unfold E_zsetting_1
      simp! [])
  have q : (L.filter fun l => decide (l.2.1 = n)).map (fun l => prD (l.1, l.2.2)) = (toldL n L).map prD := by
    unfold toldL
    rw [List.map_map]
    rfl
  unfold C_zsetting_1
  rw [e, q]
/-- one make's rows -/
inductive Rw where
  | df (q : Str × Int)
  | no (w : Str) (x : D) (rest : List D)
def rwD : Rw → D
  | .df q => dflD q
  | .no w x rest => .tuple (.str w :: x :: rest)
def rwP (n : Str) : Rw → Bool
  | .df q => decide (q.1 = n)
  | .no _ _ _ => false
def rwG (p : Str) : Rw → D
  | .df q => psD (p, q.2)
  | .no _ _ _ => .none
theorem no_rw : ∀ {l : List D}, (∀ r ∈ l, NoDf r) → ∃ rs : List Rw, l = rs.map rwD ∧ rs.length = l.length ∧ (∀ n, rs.filter (rwP n) = []) ∧ ∀ r ∈ rs, (∃ q, r = .df q) ∨ ∃ w x rest, r = .no w x rest ∧ w ≠ "default" ∧ Fc.atomD x = true
  | [], _ => ⟨[], rfl, rfl, fun _ => rfl, fun r m => by cases m⟩
  | r :: l, h => by
    obtain ⟨rs, e1, e2, e3, e4⟩ := no_rw (fun r m => h r (List.mem_cons_of_mem _ m))
    obtain ⟨w, x, rest, rfl, ne, _, ax⟩ := h r List.mem_cons_self
    refine ⟨.no w x rest :: rs, by rw [e1]; rfl, by rw [List.length_cons, e2, List.length_cons], fun n => ?_, fun r m => ?_⟩
    · rw [List.filter_cons_of_neg (by exact Bool.false_ne_true)]
      exact e3 n
    · rcases List.mem_cons.mp m with z | z
      · exact .inr ⟨w, x, rest, z, ne, ax⟩
      · exact e4 r z
theorem mk_rw {m : Mk} (ok : MkOk m) : ∃ rs : List Rw, m.A ++ (m.df.map dflD ++ m.B) = rs.map rwD ∧ rs.length ≤ 100 ∧ (∀ n, (rs.filter (rwP n)).map (rwG m.part) = (brR n m).map psD) ∧ ∀ r ∈ rs, (∃ q, r = .df q) ∨ ∃ w x rest, r = .no w x rest ∧ w ≠ "default" ∧ Fc.atomD x = true := by
  obtain ⟨r1, a1, a2, a3, a4⟩ := no_rw ok.a
  obtain ⟨r2, b1, b2, b3, b4⟩ := no_rw ok.b
  have hl := ok.len
  refine ⟨r1 ++ (m.df.map Rw.df ++ r2), ?_, ?_, fun n => ?_, fun r mr => ?_⟩
  · rw [List.map_append, List.map_append, ← a1, ← b1, List.map_map]
    rfl
  · rw [List.length_append, List.length_append, a2, b2, List.length_map]
    omega
  · rw [List.filter_append, List.filter_append, a3, b3, List.nil_append, List.append_nil]
    unfold brR
    rw [List.map_map]
    generalize m.df = l
    induction l with
    | nil => rfl
    | cons q l ih =>
      rw [List.map_cons]
      by_cases hq : q.1 = n
      · rw [List.filter_cons_of_pos (show rwP n (.df q) = true from dt hq), List.filter_cons_of_pos (by rw [dt hq]), List.map_cons, List.map_cons, ih]
        rfl
      · rw [List.filter_cons_of_neg (show ¬ rwP n (.df q) = true from by
          show ¬ decide (q.1 = n) = true
          rw [df hq]
          exact Bool.false_ne_true), List.filter_cons_of_neg (by rw [df hq]; exact Bool.false_ne_true), ih]
  · rcases List.mem_append.mp mr with z | z
    · exact a4 r z
    · rcases List.mem_append.mp z with z | z
      · obtain ⟨q, _, rfl⟩ := List.mem_map.mp z
        exact .inl ⟨q, rfl⟩
      · exact b4 r z
theorem sl2 {x y : D} {rest : List D} : (fSlice (pkVar 7) ptNone (ptSome (fC (.int 2)))) = (fSlice (pkVar 7) ptNone (ptSome (fC (.int 2)))) := rfl
theorem zfound_c (n : Str) (X Y Z F : D) (m : Mk) (ok : MkOk m) : C_zsetting_2 [some (.val (.str n)), some (.val X), some (.val Y), some (.own Z), some (.val F), some (.val (mkD m)), none, none] = .ok (.list ((brR n m).map psD)) [some (.val (.str n)), some (.val X), some (.val Y), some (.own Z), some (.val F), some (.val (mkD m)), none, none] := by
  obtain ⟨rs, e1, e2, e3, e4⟩ := mk_rw ok
  unfold mkD
  rw [e1]
  have e := comp_enc (i := 7) (I := I_zsetting_2) (T := T_zsetting_2) (E := E_zsetting_2) (δ := [some (.val (.str n)), some (.val X), some (.val Y), some (.own Z), some (.val F), some (.val (.tuple [.str "make", .str m.part, m.ver, .tuple (rs.map rwD), m.bs])), none, none]) (δ1 := [some (.val (.str n)), some (.val X), some (.val Y), some (.own Z), some (.val F), some (.val (.tuple [.str "make", .str m.part, m.ver, .tuple (rs.map rwD), m.bs])), none, none]) (xs := rs) rwD (rwP n) (rwG m.part) (by
    unfold I_zsetting_2
    generalize rs.map rwD = X
    simp! []) (by simp) rfl (by omega) (fun r mr => by
    generalize rs.map rwD = RR
    rcases e4 r mr with ⟨q, rfl⟩ | ⟨w, x, rest, rfl, ne, ax⟩
    · refine ⟨?_, fun _ => ?_⟩
      · have eq : eqF (.tuple [.str "default", .str q.1]) (.tuple [.str "default", .str n]) = some (.bool (decide (q.1 = n))) := by
          show some (PyData.bool (PyData.eqv (.tuple [.str "default", .str q.1]) (.tuple [.str "default", .str n]))) = _
          by_cases h : q.1 = n <;> simp [PyData.eqv, PyData.eqvAll, h]
        show T_zsetting_2 [some (.val (.str n)), some (.val X), some (.val Y), some (.own Z), some (.val F), some (.val (.tuple [.str "make", .str m.part, m.ver, .tuple RR, m.bs])), none, some (.val (.tuple [.str "default", .str q.1, .int q.2]))] = .ok (decide (q.1 = n)) [some (.val (.str n)), some (.val X), some (.val Y), some (.own Z), some (.val F), some (.val (.tuple [.str "make", .str m.part, m.ver, .tuple RR, m.bs])), none, some (.val (.tuple [.str "default", .str q.1, .int q.2]))]
        have sl : cutD [(.str "default" : D), .str q.1, .int q.2] none (some 2) = [.str "default", .str q.1] := rfl
        unfold T_zsetting_2
        simp! [sl, eq]
      · show E_zsetting_2 [some (.val (.str n)), some (.val X), some (.val Y), some (.own Z), some (.val F), some (.val (.tuple [.str "make", .str m.part, m.ver, .tuple RR, m.bs])), none, some (.val (.tuple [.str "default", .str q.1, .int q.2]))] = .ok (.tuple [.str m.part, .int q.2]) [some (.val (.str n)), some (.val X), some (.val Y), some (.own Z), some (.val F), some (.val (.tuple [.str "make", .str m.part, m.ver, .tuple RR, m.bs])), none, some (.val (.tuple [.str "default", .str q.1, .int q.2]))]
        unfold E_zsetting_2
        simp! []
    · refine ⟨?_, fun z => by cases z⟩
      have eq : eqF (.tuple [.str w, x]) (.tuple [.str "default", .str n]) = some (.bool false) := by
        have ev : PyData.eqv (.tuple [.str w, x]) (.tuple [.str "default", .str n]) = false := by
          show (PyData.eqv (.str w) (.str "default") && _) = false
          rw [Lo.ev_s, df ne]
          rfl
        cases x with
        | int i => 
          show some (PyData.bool (PyData.eqv (.tuple [.str w, .int i]) (.tuple [.str "default", .str n]))) = _
          rw [ev]
        | str i => 
          show some (PyData.bool (PyData.eqv (.tuple [.str w, .str i]) (.tuple [.str "default", .str n]))) = _
          rw [ev]
        | _ => cases ax
      have sl : cutD (.str w :: x :: rest) none (some 2) = [.str w, x] := rfl
      show T_zsetting_2 [some (.val (.str n)), some (.val X), some (.val Y), some (.own Z), some (.val F), some (.val (.tuple [.str "make", .str m.part, m.ver, .tuple RR, m.bs])), none, some (.val (.tuple (.str w :: x :: rest)))] = .ok false [some (.val (.str n)), some (.val X), some (.val Y), some (.own Z), some (.val F), some (.val (.tuple [.str "make", .str m.part, m.ver, .tuple RR, m.bs])), none, some (.val (.tuple (.str w :: x :: rest)))]
      unfold T_zsetting_2
      simp! [sl, eq])
  unfold C_zsetting_2
  rw [e, e3]
theorem zmakes_l (n : Str) (X Z : D) : ∀ (M : List Mk) (Y : D) (T : List (Str × Int)) (x5 : Option Cell), (∀ m ∈ M, MkOk m) → T.length + M.length * 100 ≤ 100000 → soft x5 = true →
    ∃ y5, sForL (bName 5) Y_zsetting_3 (M.map mkD) [some (.val (.str n)), some (.val X), some (.val Y), some (.own Z), some (.val (.list (T.map psD))), x5, none, none] = .next [some (.val (.str n)), some (.val X), some (.val Y), some (.own Z), some (.val (.list ((T ++ toldM n M).map psD))), y5, none, none]
  | [], Y, T, x5, _, _, _ => ⟨x5, by
    rw [show toldM n [] = [] from rfl, List.append_nil]
    rfl⟩
  | m :: M, Y, T, x5, ok, hl, s5 => by
    have okm := ok m List.mem_cons_self
    have lb : (brR n m).length ≤ 100 := by
      have h2 := okm.len
      have h3 : (brR n m).length ≤ m.df.length := by
        unfold brR
        rw [List.length_map]
        exact List.length_filter_le _ _
      omega
    simp only [List.length_cons] at hl
    obtain ⟨y5, e⟩ := zmakes_l n X Z M Y (T ++ brR n m) (some (.val (mkD m))) (fun r mr => ok r (List.mem_cons_of_mem _ mr)) (by rw [List.length_append]; omega) rfl
    refine ⟨y5, ?_⟩
    rw [List.map_cons, forL_cons]
    have hB : bName 5 (mkD m) [some (.val (.str n)), some (.val X), some (.val Y), some (.own Z), some (.val (.list (T.map psD))), x5, none, none] = some [some (.val (.str n)), some (.val X), some (.val Y), some (.own Z), some (.val (.list (T.map psD))), some (.val (mkD m)), none, none] := by
      generalize mkD m = d
      generalize T.map psD = t
      simp! [s5]
    have hY : Y_zsetting_3 [some (.val (.str n)), some (.val X), some (.val Y), some (.own Z), some (.val (.list (T.map psD))), some (.val (mkD m)), none, none] = .next [some (.val (.str n)), some (.val X), some (.val Y), some (.own Z), some (.val (.list ((T ++ brR n m).map psD))), some (.val (mkD m)), none, none] := by
      have c := zfound_c n X Y Z (.list (T.map psD)) m okm
      have ad := addF_l (a := T.map psD) (c := (brR n m).map psD) (by simp only [List.length_map] at *; omega)
      rw [← List.map_append] at ad
      unfold Y_zsetting_3
      generalize C_zsetting_2 = C at *
      generalize mkD m = d at *
      generalize (T ++ brR n m).map psD = t1 at *
      generalize T.map psD = t2 at *
      simp! [c, ad]
    rw [hB, for1_e, hY, for2_n, e]
    show _ = RS.next [_, _, _, _, some (Cell.val (.list ((T ++ (brR n m ++ toldM n M)).map psD))), _, _, _]
    rw [List.append_assoc]
theorem zsetting_ex (n : Str) (L : List Ly) (M : List Mk) (hM : MsOk M) (hl : L.length ≤ 1000) (hm : M.length ≤ 500) : ∃ o, m_zsetting [.val (.str n), .val (.list (L.map lyD)), .val (.list (M.map mkD))] = .ok (.val (optD o)) [none, none, none] ∧ Told n L M o := by
  have c := ztold_c n L (.list (M.map mkD)) hl
  have nn := ne_nilL (l := (toldL n L).map prD) (prs_flat _).1
  by_cases h : toldL n L = []
  · rw [h] at c nn
    rw [dt (by rfl)] at nn
    obtain ⟨y5, e⟩ := zmakes_l n (.list (L.map lyD)) (.list []) M (.list (M.map mkD)) [] none hM.ok (by simp only [List.length_nil]; omega) rfl
    rw [List.nil_append] at e
    have hI : I_zsetting_3 [some (.val (.str n)), some (.val (.list (L.map lyD))), some (.val (.list (M.map mkD))), some (.own (.list [])), some (.val (.list [])), none, none, none] = .ok (M.map mkD) [some (.val (.str n)), some (.val (.list (L.map lyD))), some (.val (.list (M.map mkD))), some (.own (.list [])), some (.val (.list [])), none, none, none] := by
      unfold I_zsetting_3
      generalize M.map mkD = R at *
      generalize L.map lyD = X at *
      simp! []
    have hL : L_zsetting_3 [some (.val (.str n)), some (.val (.list (L.map lyD))), some (.val (.list (M.map mkD))), some (.own (.list [])), some (.val (.list [])), none, none, none] = _ := for_gB hI e
    have nf := eq_nilL (l := (toldM n M).map psD) (pss_flat _).1
    have n0 : neF (.list []) (.list []) = some (.bool false) := nn
    by_cases h2 : toldM n M = []
    · refine ⟨none, ?_, .inl ⟨h, h2⟩⟩
      rw [h2] at nf hL
      rw [dt (by rfl)] at nf
      have nf0 : eqF (.list []) (.list []) = some (.bool true) := nf
      unfold m_zsetting
      rw [start _ _ _ _ (by rfl)]
      unfold F_zsetting
      generalize C_zsetting_1 = C at *
      generalize L_zsetting_3 = LL at *
      generalize L.map lyD = X at *
      generalize M.map mkD = Y at *
      simp only [List.map_nil] at c hL
      simp! [c, n0, hL, nf0, optD]
    · obtain ⟨q, mn, t⟩ := min_pss h2
      refine ⟨some q.2, ?_, .inl ⟨h, t⟩⟩
      rw [df (fun z => h2 (List.map_eq_nil_iff.mp z))] at nf
      have it : itF (psD q) (.int 1) = some (.int q.2) := rfl
      unfold m_zsetting
      rw [start _ _ _ _ (by rfl)]
      unfold F_zsetting
      generalize C_zsetting_1 = C at *
      generalize L_zsetting_3 = LL at *
      generalize L.map lyD = X at *
      generalize M.map mkD = Y at *
      generalize (toldM n M).map psD = Z at *
      generalize psD q = pq at *
      simp only [List.map_nil] at c hL
      simp! [c, n0, hL, nf, mn, it, optD]
  · obtain ⟨q, mx, t⟩ := max_prs h
    refine ⟨some q.2, ?_, .inr ⟨h, q.2, rfl, t⟩⟩
    rw [df (fun z => h (List.map_eq_nil_iff.mp z)), Bool.not_false] at nn
    have it : itF (prD q) (.int 1) = some (.int q.2) := rfl
    unfold m_zsetting
    rw [start _ _ _ _ (by rfl)]
    unfold F_zsetting
    generalize C_zsetting_1 = C at *
    generalize L.map lyD = X at *
    generalize M.map mkD = Y at *
    generalize (toldL n L).map prD = Z at *
    generalize prD q = pq at *
    simp! [c, nn, mx, it, optD]
/-! ### the same told, whatever the order -/
theorem perm_map {α β : Type} {f : α → β} {ys zs : List β} (p : ys.Perm zs) : ∀ L : List α, zs = L.map f → ∃ L' : List α, ys = L'.map f ∧ L'.Perm L := by
  induction p with
  | nil =>
    intro L e
    have : L = [] := List.map_eq_nil_iff.mp e.symm
    rw [this]
    exact ⟨[], rfl, .nil⟩
  | cons x p ih =>
    intro L e
    cases L with
    | nil => cases e
    | cons a L =>
      rw [List.map_cons] at e
      injection e with e1 e2
      obtain ⟨L', e3, p3⟩ := ih L e2
      exact ⟨a :: L', by rw [e3, e1]; rfl, p3.cons a⟩
  | swap x y l =>
    intro L e
    cases L with
    | nil => cases e
    | cons a L =>
      cases L with
      | nil =>
        rw [List.map_cons] at e
        injection e with _ e
        cases e
      | cons c L =>
        rw [List.map_cons, List.map_cons] at e
        injection e with e1 e2
        injection e2 with e2 e3
        exact ⟨c :: a :: L, by rw [e1, e2, e3]; rfl, .swap _ _ _⟩
  | trans p q ih1 ih2 =>
    intro L e
    obtain ⟨L1, e1, p1⟩ := ih2 L e
    obtain ⟨L2, e2, p2⟩ := ih1 L1 e1
    exact ⟨L2, e2, p2.trans p1⟩
theorem alike_o {o : Option Int} (h : ∀ v, o = some v → numOk v) : m_zalike [.val (optD o), .val (optD o)] = .ok (.val (.bool true)) [none, none] := by
  rw [alike_m]
  cases o with
  | none => exact Fc.alike_e .none rfl (s := PyData.none.shown) rfl
  | some v =>
    have nv := h v rfl
    refine Fc.alike_e (.int v) (by rw [eqF_i, dt rfl]) (s := (PyData.int v).shown) ?_
    have l := Df.small_len (i := v) (by omega)
    show (if _ ∧ _ ∧ _ then _ else _) = _
    have d : PyData.depth (.int v) = 0 := rfl
    rw [if_pos ⟨by
      simp only [PyData.showable, decide_eq_true_eq]
      by_cases hz : v.natAbs = 0
      · rw [hz]
        decide
      · have := (Nat.log2_lt hz).mpr (show v.natAbs < 2 ^ 30 by omega)
        omega, by omega, by omega⟩]
/-! ### layers drawn -/
structure Nm (ns : List Str) : Prop where
  ne : ns ≠ []
  nd : ns.Nodup
  ln : ns.length ≤ 3
  ts : ∀ n ∈ ns, TS n
theorem names_any {ns : List Str} (hn : Nm ns) (b : Bg) : ∃ n b', Fc.m_zany [.ref (bagD b), .val (.list (strL ns))] = .ok (.val (.str n)) [some (.ref (bagD b')), none] ∧ n ∈ ns := by
  obtain ⟨x, mx, b', e⟩ := Fc.any_ex b (strL ns) (fun z => hn.ne (List.map_eq_nil_iff.mp z)) (by
    have := hn.ln
    unfold Lf.strL
    rw [List.length_map]
    omega)
  obtain ⟨n, mn, rfl⟩ := List.mem_map.mp mx
  exact ⟨n, b', e, mn⟩
theorem key_eq (l : Ly) (d : Int) (n : Str) : eqF (.tuple [.int l.1, .str l.2.1]) (.tuple [.int d, .str n]) = some (.bool (decide (l.1 = d ∧ l.2.1 = n))) := by
  show some (PyData.bool (PyData.eqv (.tuple [.int l.1, .str l.2.1]) (.tuple [.int d, .str n]))) = _
  by_cases h1 : l.1 = d <;> by_cases h2 : l.2.1 = n <;> simp [PyData.eqv, PyData.eqvAll, h1, h2]
theorem layer_c (B N k : D) (L : List Ly) (d : Int) (n : Str) (hl : L.length ≤ 1000) : C_zlayers_1 [some (.ref B), some (.val N), some (.own (.list (L.map lyD))), some (.val k), some (.val (.int d)), some (.val (.str n)), none] =
    .ok (.list ((L.filter fun l => decide (l.1 = d ∧ l.2.1 = n)).map lyD)) [some (.ref B), some (.val N), some (.own (.list (L.map lyD))), some (.val k), some (.val (.int d)), some (.val (.str n)), none] := by
  have e := compV_map (v := 2) (i := 6) (T := T_zlayers_1) (E := E_zlayers_1) (δ := [some (.ref B), some (.val N), some (.own (.list (L.map lyD))), some (.val k), some (.val (.int d)), some (.val (.str n)), none]) (ds := L.map lyD) (fun y => match y with
    | .tuple [.int a, .str s, _] => decide (a = d ∧ s = n)
    | _ => false) id rfl (by simp) rfl (by decide) (by rw [List.length_map]; omega) (fun y my => by
    obtain ⟨l, _, rfl⟩ := List.mem_map.mp my
    have sl : cutD [(.int l.1 : D), .str l.2.1, .int l.2.2] none (some 2) = [.int l.1, .str l.2.1] := rfl
    have q := key_eq l d n
    refine ⟨?_, fun _ => ?_⟩
    · show T_zlayers_1 [some (.ref B), some (.val N), some (.own (.list (L.map lyD))), some (.val k), some (.val (.int d)), some (.val (.str n)), some (.val (.tuple [.int l.1, .str l.2.1, .int l.2.2]))] = .ok (decide (l.1 = d ∧ l.2.1 = n)) [some (.ref B), some (.val N), some (.own (.list (L.map lyD))), some (.val k), some (.val (.int d)), some (.val (.str n)), some (.val (.tuple [.int l.1, .str l.2.1, .int l.2.2]))]
      generalize L.map lyD = X
      unfold T_zlayers_1
      simp! [sl, q]
    · rfl)
  unfold C_zlayers_1
  rw [e]
  congr 2
  rw [List.filter_map, List.map_map]
  rfl
theorem layer_step {ns : List Str} (hn : Nm ns) (b : Bg) (L : List Ly) (k : D) (x4 x5 : Option Cell) (s4 : soft x4 = true) (s5 : soft x5 = true) (hL : LyOk L) (hl : L.length ≤ 100) :
    ∃ (L' : List Ly) (b' : Bg) (y4 y5 : Option Cell), Y_zlayers_2 [some (.ref (bagD b)), some (.val (.list (strL ns))), some (.own (.list (L.map lyD))), some (.val k), x4, x5, none] =
      .next [some (.ref (bagD b')), some (.val (.list (strL ns))), some (.own (.list (L'.map lyD))), some (.val k), y4, y5, none] ∧ soft y4 = true ∧ soft y5 = true ∧ LyOk L' ∧ L'.length ≤ L.length + 1 := by
  have t1 := take_e b 9 (by omega) (by omega)
  have v0 := takeV_nn (b := b) (m := 9) (by omega)
  have v9 := takeV_lt (b := b) (m := 9) (by omega)
  generalize takeV b 9 = v at *
  generalize takeB b 9 = b1 at *
  obtain ⟨n, b2, e2, mn⟩ := names_any hn b1
  have c := layer_c (bagD b2) (.list (strL ns)) k L (1 + v) n (by omega)
  have ad : addF (.int 1) (.int v) = some (.int (1 + v)) := addF_i
  by_cases h : L.filter (fun l => decide (l.1 = 1 + v ∧ l.2.1 = n)) = []
  · obtain ⟨m, b3, e3, mo⟩ := Fc.number_ex b2
    refine ⟨L ++ [(1 + v, n, m)], b3, some (.val (.int (1 + v))), some (.val (.str n)), ?_, rfl, rfl, ?_, by simp⟩
    · rw [h] at c
      have q : eqF (.list []) (.list []) = some (.bool true) := rfl
      have es : (L ++ [(1 + v, n, m)]).map lyD = L.map lyD ++ [.tuple [.int (1 + v), .str n, .int m]] := by
        rw [List.map_append]
        rfl
      have le : (L.map lyD).length < 1000000 := by
        rw [List.length_map]
        omega
      rw [es]
      unfold Y_zlayers_2
      rw [take_m, any_m, number_m]
      generalize Fc.m_zany = ma at *
      generalize Fc.m_znumber = mnu at *
      generalize C_zlayers_1 = C at *
      generalize strL ns = N at *
      generalize L.map lyD = X at *
      simp only [List.map_nil] at c
      simp! [t1, ad, e2, c, q, e3, bTup_e, s4, s5]
      rw [app2_e _ le]
      rfl
    · refine ⟨?_, fun l m => ?_, fun l ml => ?_⟩
      · rw [List.map_append]
        refine List.nodup_append.mpr ⟨hL.nd, by simp, fun a ma y my z => ?_⟩
        obtain ⟨l, ml, rfl⟩ := List.mem_map.mp ma
        rw [List.map_cons, List.map_nil, List.mem_singleton] at my
        rw [my] at z
        injection z with z1 z2
        have : l ∈ L.filter (fun l => decide (l.1 = 1 + v ∧ l.2.1 = n)) := List.mem_filter.mpr ⟨ml, dt ⟨z1, z2⟩⟩
        rw [h] at this
        cases this
      · rcases List.mem_append.mp m with m | m
        · exact hL.nb l m
        · rw [List.mem_singleton.mp m]
          exact mo
      · rcases List.mem_append.mp ml with ml | ml
        · exact hL.tl l ml
        · rw [List.mem_singleton.mp ml]
          show T1 (.tuple [.int (1 + v), .str n, .int m]) 300
          exact (T1.tup (TA.cons (T1.int (by omega) (by omega)) (TA.cons (hn.ts n mn) (TA.cons (T1.int (by omega) (by omega)) TA.nil)))).mono (by decide)
  · refine ⟨L, b2, some (.val (.int (1 + v))), some (.val (.str n)), ?_, rfl, rfl, hL, by omega⟩
    have pl : PyData.plainAll ((L.filter (fun l => decide (l.1 = 1 + v ∧ l.2.1 = n))).map lyD) = true := by
      generalize L.filter (fun l => decide (l.1 = 1 + v ∧ l.2.1 = n)) = F
      induction F with
      | nil => rfl
      | cons l F ih =>
        show (PyData.plain (lyD l) && PyData.plainAll (F.map lyD)) = true
        rw [ih]
        rfl
    have q := eq_nilL pl
    rw [df (fun z => h (List.map_eq_nil_iff.mp z))] at q
    unfold Y_zlayers_2
    rw [take_m, any_m, number_m]
    generalize Fc.m_zany = ma at *
    generalize Fc.m_znumber = mnu at *
    generalize C_zlayers_1 = C at *
    generalize strL ns = N at *
    generalize (L.filter (fun l => decide (l.1 = 1 + v ∧ l.2.1 = n))).map lyD = F at *
    generalize L.map lyD = X at *
    simp! [t1, ad, e2, c, q, bTup_e, s4, s5]
theorem layers_ex {ns : List Str} (hn : Nm ns) (b : Bg) : ∃ (L : List Ly) (b' : Bg), m_zlayers [.ref (bagD b), .val (.list (strL ns))] = .ok (.own (.list (L.map lyD))) [some (.ref (bagD b')), none] ∧ LyOk L ∧ L.length ≤ 13 := by
  have t1 := take_e b 2 (by omega) (by omega)
  have a1 := takeV_nn (b := b) (m := 2) (by omega)
  have a2 := takeV_lt (b := b) (m := 2) (by omega)
  generalize takeV b 2 = v at *
  generalize takeB b 2 = b1 at *
  obtain ⟨m, at_, hm⟩ : ∃ m : Int, L2.atI ([.int 3, .int 13] : List D) v = some (.int m) ∧ (m = 3 ∨ m = 13) := by
    have : v = 0 ∨ v = 1 := by omega
    rcases this with rfl | rfl
    · exact ⟨3, rfl, .inl rfl⟩
    · exact ⟨13, rfl, .inr rfl⟩
  have t2 := take_e b1 m (by omega) (by omega)
  have c1 := takeV_nn (b := b1) (m := m) (by omega)
  have c2 := takeV_lt (b := b1) (m := m) (by omega)
  generalize takeV b1 m = w at *
  generalize takeB b1 m = b2 at *
  have run : ∀ (r : List D) (b : Bg) (L : List Ly) (x3 x4 x5 : Option Cell), soft x3 = true → soft x4 = true → soft x5 = true → LyOk L → L.length + r.length ≤ 13 →
      ∃ (L' : List Ly) (b' : Bg) (y3 y4 y5 : Option Cell), sForL (bName 3) Y_zlayers_2 r [some (.ref (bagD b)), some (.val (.list (strL ns))), some (.own (.list (L.map lyD))), x3, x4, x5, none] = .next [some (.ref (bagD b')), some (.val (.list (strL ns))), some (.own (.list (L'.map lyD))), y3, y4, y5, none] ∧ LyOk L' ∧ L'.length ≤ 13 := by
    intro r
    induction r with
    | nil =>
      intro b L x3 x4 x5 _ _ _ hL hl
      exact ⟨L, b, x3, x4, x5, rfl, hL, by simpa using hl⟩
    | cons d r ih =>
      intro b L x3 x4 x5 s3 s4 s5 hL hl
      simp only [List.length_cons] at hl
      obtain ⟨L1, b1, y4, y5, e1, t4, t5, hL1, l1⟩ := layer_step hn b L d x4 x5 s4 s5 hL (by omega)
      obtain ⟨L2, b2, z3, z4, z5, e2, hL2, l2⟩ := ih b1 L1 (some (.val d)) y4 y5 rfl t4 t5 hL1 (by omega)
      refine ⟨L2, b2, z3, z4, z5, ?_, hL2, l2⟩
      have bn : bName 3 d [some (.ref (bagD b)), some (.val (.list (strL ns))), some (.own (.list (L.map lyD))), x3, x4, x5, none] = some [some (.ref (bagD b)), some (.val (.list (strL ns))), some (.own (.list (L.map lyD))), some (.val d), x4, x5, none] := by
        generalize strL ns = N at *
        generalize L.map lyD = X at *
        simp! [s3]
      rw [forL_cons, bn, for1_e, e1, for2_n]
      exact e2
  obtain ⟨L, b3, y3, y4, y5, e, hL, hl⟩ := run (rngL 0 w.toNat) b2 [] none none none rfl rfl rfl ⟨.nil, fun l m => (by cases m), fun l m => (by cases m)⟩ (by
    unfold rngL
    rw [List.length_map, List.length_range, List.length_nil]
    omega)
  refine ⟨L, b3, ?_, hL, hl⟩
  have hI : I_zlayers_2 [some (.ref (bagD b)), some (.val (.list (strL ns))), some (.own (.list [])), none, none, none, none] = .ok (rngL 0 w.toNat) [some (.ref (bagD b2)), some (.val (.list (strL ns))), some (.own (.list [])), none, none, none, none] := by
    have rg : ∀ δ, rng1 (.int w) δ = .ok (rngL 0 w.toNat) δ := fun δ => if_pos ⟨by omega, by omega⟩
    unfold I_zlayers_2
    rw [take_m]
    generalize strL ns = N at *
    simp! [t1, at_, t2, rg]
  have hL2 : L_zlayers_2 [some (.ref (bagD b)), some (.val (.list (strL ns))), some (.own (.list [])), none, none, none, none] = _ := for_gB hI e
  unfold m_zlayers
  rw [start _ _ _ _ (by rfl)]
  unfold F_zlayers
  generalize L_zlayers_2 = LL at *
  generalize strL ns = N at *
  generalize L.map lyD = X at *
  simp! [hL2]
/-! ### makes drawn -/
theorem oth_no {r : D} (h : OthR r) : NoDf r := by
  obtain ⟨w, x, rest, rfl, m, a, l⟩ := h.ex
  refine ⟨w, x, rest, rfl, fun z => ?_, l, a⟩
  rw [z] at m
  exact absurd m (by decide +kernel)
theorem rgt_no (p : Str × Str × Int) : NoDf (rgtD p) := ⟨"right", .str p.1, [.str p.2.1, .int p.2.2], rfl, by decide +kernel, by simp, rfl⟩
theorem face_mk {rows fr : List D} {rg : List (Str × Str × Int)} {df : List (Str × Int)} {bk : List D} (F : FaceR rows fr rg df bk) (p : Str) (ver bs : D) :
    PyData.tuple [.str "make", .str p, ver, .tuple rows, bs] = mkD ⟨p, ver, fr ++ rg.map rgtD, df, bk, bs⟩ ∧ MkOk ⟨p, ver, fr ++ rg.map rgtD, df, bk, bs⟩ := by
  refine ⟨?_, ?_, fun r m => oth_no (F.bk r m), F.dn, ?_⟩
  · unfold mkD
    rw [F.eq, List.append_assoc]
  · intro r m
    rcases List.mem_append.mp m with m | m
    · exact oth_no (F.fr r m)
    · obtain ⟨q, _, rfl⟩ := List.mem_map.mp m
      exact rgt_no q
  · have h := congrArg List.length F.eq
    have l := F.len
    simp only [List.length_append, List.length_map] at *
    omega
abbrev Sm (ns : List Str) (b : Bg) (ps : List Str) (Z : List D) (x4 x5 x6 x7 : Option Cell) : DEnv := [some (.ref (bagD b)), some (.val (.list (strL ns))), some (.val (.list (strL ps))), some (.own (.list Z)), x4, x5, x6, x7, none]
theorem rows_c {ns : List Str} (hn : Nm ns) (b : Bg) (ps : List Str) (Z : List D) (p ver mk : D) (x7 : Option Cell) : ∃ (df : List (Str × Int)) (b' : Bg), C_zsome_makes_1 (Sm ns b ps Z (some (.val p)) (some (.val ver)) (some (.val mk)) x7) = .ok (.list (df.map dflD)) (Sm ns b' ps Z (some (.val p)) (some (.val ver)) (some (.val mk)) x7) ∧
    (df.map (·.1)).Nodup ∧ (∀ q ∈ df, numOk q.2) ∧ df.length ≤ 3 ∧ ∀ q ∈ df, TS q.1 := by
  have pm := List.mergeSort_perm ns leS
  have so := sort_strs ns
  change sortF [.list (strL ns)] = some (.list (strL (ns.mergeSort leS))) at so
  generalize hS : ns.mergeSort leS = S at *
  have nS : S.Nodup := pm.nodup_iff.mpr hn.nd
  have lS : S.length ≤ 3 := by
    rw [pm.length_eq]
    exact hn.ln
  obtain ⟨sub, b', e, sl, g⟩ := Fc.draw_e (j := 7) (I := I_zsome_makes_1) (T := T_zsome_makes_1) (E := E_zsome_makes_1) (b0 := b) (b := b)
    (rest0 := [some (.val (.list (strL ns))), some (.val (.list (strL ps))), some (.own (.list Z)), some (.val p), some (.val ver), some (.val mk), x7, none])
    (rest := [some (.val (.list (strL ns))), some (.val (.list (strL ps))), some (.own (.list Z)), some (.val p), some (.val ver), some (.val mk), x7, none]) (names := S) (fun n y => ∃ k : Int, y = .tuple [.str "default", .str n, .int k] ∧ numOk k) (by simp) rfl (by omega) (by
    unfold I_zsome_makes_1
    generalize strL ns = N at *
    generalize strL S = N2 at *
    generalize strL ps = N3 at *
    simp! [so]) (fun n mn b => by
    have t1 := take_e b 3 (by omega) (by omega)
    generalize takeV b 3 = v at *
    generalize takeB b 3 = b1 at *
    have T : T_zsome_makes_1 (some (.ref (bagD b)) :: ([some (.val (.list (strL ns))), some (.val (.list (strL ps))), some (.own (.list Z)), some (.val p), some (.val ver), some (.val mk), x7, none] : DEnv).set 7 (some (.val (.str n)))) = .ok (decide (v = 0)) (some (.ref (bagD b1)) :: ([some (.val (.list (strL ns))), some (.val (.list (strL ps))), some (.own (.list Z)), some (.val p), some (.val ver), some (.val mk), x7, none] : DEnv).set 7 (some (.val (.str n)))) := by
      have q : eqF (.int v) (.int 0) = some (.bool (decide (v = 0))) := eqF_i
      unfold T_zsome_makes_1
      rw [take_m]
      generalize strL ns = N at *
      generalize strL ps = N3 at *
      simp! [t1, q]
    by_cases h : v = 0
    · rw [dt h] at T
      obtain ⟨k, b2, t2, o⟩ := Fc.number_ex b1
      refine .inr ⟨b1, .tuple [.str "default", .str n, .int k], b2, T, ?_, k, rfl, o⟩
      unfold E_zsome_makes_1
      rw [number_m]
      generalize Fc.m_znumber = mn at *
      generalize strL ns = N at *
      generalize strL ps = N3 at *
      simp! [t2]
    · rw [df h] at T
      exact .inl ⟨b1, T⟩)
  obtain ⟨l, e1, e2, e3⟩ := Fc.conv (f := fun n (k : Int) => .tuple [.str "default", .str n, .int k]) (P := numOk) g
  refine ⟨l, b', ?_, ?_, e3, ?_, fun q m => hn.ts q.1 (pm.mem_iff.mp (sl.subset (e2 ▸ List.mem_map.mpr ⟨q, m, rfl⟩)))⟩
  · have en : sub.map (·.2) = l.map dflD := e1
    rw [en] at e
    exact e
  · rw [e2]
    exact sl.nodup nS
  · have := sl.length_le
    rw [← e2, List.length_map] at this
    omega
theorem make_step {ns : List Str} (hn : Nm ns) (b : Bg) (ps : List Str) (p : Str) (tp : ∀ q ∈ ps, TS q) (tq : TS p) (Z : List D) (x5 x6 x7 : Option Cell) (s5 : soft x5 = true) (s6 : soft x6 = true) (s7 : soft x7 = true) (lz : Z.length ≤ 1000) (lp : ps.length ≤ 9) :
    ∃ (m : Mk) (b' : Bg) (y5 y6 y7 : Option Cell), Y_zsome_makes_2 (Sm ns b ps Z (some (.val (.str p))) x5 x6 x7) = .next (Sm ns b' ps (Z ++ [mkD m]) (some (.val (.str p))) y5 y6 y7) ∧ soft y5 = true ∧ soft y6 = true ∧ soft y7 = true ∧ MkOk m ∧ m.part = p ∧ (∀ q ∈ m.df, numOk q.2) ∧ T1 (mkD m) 150000 ∧ PyData.depth (mkD m) ≤ 8 := by
  have t1 := take_e b 10 (by omega) (by omega)
  have v0 := takeV_nn (b := b) (m := 10) (by omega)
  have v9 := takeV_lt (b := b) (m := 10) (by omega)
  generalize takeV b 10 = v1 at *
  generalize takeB b 10 = b1 at *
  have t2 := take_e b1 10 (by omega) (by omega)
  have w0 := takeV_nn (b := b1) (m := 10) (by omega)
  have w9 := takeV_lt (b := b1) (m := 10) (by omega)
  generalize takeV b1 10 = v2 at *
  generalize takeB b1 10 = b2 at *
  have tv : T1 (.tuple [.int v1, .int v2]) 200 := (T1.tup (TA.cons (T1.int (by omega) (by omega)) (TA.cons (T1.int (by omega) (by omega)) TA.nil))).mono (by decide)
  have dv : PyData.depth (.tuple [.int v1, .int v2]) ≤ 2 := by simp [PyData.depth, PyData.depthAll]
  obtain ⟨rows, fr, rg, df0, bk, bs, b3, e3, F, lb, fb⟩ := Fc.make_ex b2 p (.tuple [.int v1, .int v2]) ps ["plain"] (by omega) tp (by decide) (by decide) (fun n m => (by
    rw [List.mem_singleton.mp m]
    exact T1.lit (by decide +kernel) (by decide)))
  have e3' : Fc.m_zmake [.ref (bagD b2), .val (.str p), .val (.tuple [.int v1, .int v2]), .val (.list (strL ps)), .val (.list [.str "plain"])] = .ok (.val (.tuple [.str "make", .str p, .tuple [.int v1, .int v2], .tuple rows, .tuple bs])) [some (.ref (bagD b3)), none, none, none, none] := e3
  have t3 := take_e b3 3 (by omega) (by omega)
  generalize takeV b3 3 = v3 at *
  generalize takeB b3 3 = b4 at *
  have q : gtF (.int v3) (.int 0) = some (.bool (decide (v3 > 0))) := by rw [gtF_i]
  by_cases h : v3 > 0
  · rw [dt h] at q
    obtain ⟨df, b5, e5, dn, db, dl, dts⟩ := rows_c hn b4 ps Z (.str p) (.tuple [.int v1, .int v2]) (.tuple [.str "make", .str p, .tuple [.int v1, .int v2], .tuple rows, .tuple bs]) x7
    refine ⟨⟨p, .tuple [.int v1, .int v2], [], df, [], .tuple []⟩, b5, some (.val (.tuple [.int v1, .int v2])), some (.val (.tuple [.str "make", .str p, .tuple [.int v1, .int v2], .tuple (df.map dflD), .tuple []])), some (.own (.list (df.map dflD))), ?_, rfl, rfl, rfl, ⟨fun r m => (by cases m), fun r m => (by cases m), dn, (by simp only [List.length_nil]; omega)⟩, rfl, db, ?_⟩
    · have em : mkD ⟨p, .tuple [.int v1, .int v2], [], df, [], .tuple []⟩ = .tuple [.str "make", .str p, .tuple [.int v1, .int v2], .tuple (df.map dflD), .tuple []] := by
        unfold mkD
        rw [List.nil_append, List.append_nil]
      rw [em]
      have tu : tupleF [.list (df.map dflD)] = some (.tuple (df.map dflD)) := rfl
      have le : Z.length < 1000000 := by omega
      unfold Y_zsome_makes_2
      rw [take_m, make_m]
      unfold Sm at *
      generalize Fc.m_zmake = mm at *
      generalize C_zsome_makes_1 = C at *
      generalize strL ns = N at *
      generalize strL ps = N3 at *
      generalize df.map dflD = RR at *
      simp! [t1, t2, e3', t3, q, e5, tu, s5, s6, s7]
      rw [app2_e _ le]
      rfl
    · have em : mkD ⟨p, .tuple [.int v1, .int v2], [], df, [], .tuple []⟩ = .tuple [.str "make", .str p, .tuple [.int v1, .int v2], .tuple (df.map dflD), .tuple []] := by
        unfold mkD
        rw [List.nil_append, List.append_nil]
      rw [em]
      have ta : TA (df.map dflD) (df.length * 2502) := by
        have a := TA.all (ds := df.map dflD) (k := 2500) (fun d m => by
          obtain ⟨q, mq, rfl⟩ := List.mem_map.mp m
          exact Fc.dfl_t (db q mq) (dts q mq))
        rw [List.length_map] at a
        exact a
      have da := Fc.dp_all (ds := df.map dflD) (k := 3) (fun d m => by
        obtain ⟨q, mq, rfl⟩ := List.mem_map.mp m
        exact Fc.dfl_dp q)
      refine ⟨(T1.tup (TA.cons (T1.lit (s := "make") (by decide +kernel) (by decide)) (TA.cons tq (TA.cons tv (TA.cons (T1.tup ta) (TA.cons (T1.tup TA.nil) TA.nil)))))).mono (by omega), ?_⟩
      simp only [PyData.depth, PyData.depthAll] at dv ⊢
      omega
  · rw [df h] at q
    obtain ⟨em, ok⟩ := face_mk F p (.tuple [.int v1, .int v2]) (.tuple bs)
    refine ⟨⟨p, .tuple [.int v1, .int v2], fr ++ rg.map rgtD, df0, bk, .tuple bs⟩, b4, some (.val (.tuple [.int v1, .int v2])), some (.val (.tuple [.str "make", .str p, .tuple [.int v1, .int v2], .tuple rows, .tuple bs])), x7, ?_, rfl, rfl, s7, ok, rfl, F.db, ?_⟩
    · rw [← em]
      have le : Z.length < 1000000 := by omega
      unfold Y_zsome_makes_2
      rw [take_m, make_m]
      unfold Sm at *
      generalize Fc.m_zmake = mm at *
      generalize C_zsome_makes_1 = C at *
      generalize strL ns = N at *
      generalize strL ps = N3 at *
      simp! [t1, t2, e3', t3, q, s5, s6, s7]
      rw [app2_e _ le]
      rfl
    · rw [← em]
      exact Fc.make_t F lb fb tq tv dv
theorem makes_ex {ns : List Str} (hn : Nm ns) (b : Bg) (ps : List Str) (nd : ps.Nodup) (lp : ps.length ≤ 9) (tp : ∀ q ∈ ps, TS q) : ∃ (M : List Mk) (b' : Bg), m_zsome_makes [.ref (bagD b), .val (.list (strL ns)), .val (.list (strL ps))] = .ok (.own (.list (M.map mkD))) [some (.ref (bagD b')), none, none] ∧ MsOk M ∧ M.map (·.part) = ps := by
  have run : ∀ (r : List Str) (b : Bg) (M : List Mk) (x4 x5 x6 x7 : Option Cell), (∀ q ∈ r, TS q) → (∀ m ∈ M, T1 (mkD m) 150000 ∧ PyData.depth (mkD m) ≤ 8) → soft x4 = true → soft x5 = true → soft x6 = true → soft x7 = true → (∀ m ∈ M, MkOk m) → (∀ m ∈ M, ∀ q ∈ m.df, numOk q.2) → M.length + r.length ≤ 1000 →
      ∃ (M' : List Mk) (b' : Bg) (y4 y5 y6 y7 : Option Cell), sForL (bName 4) Y_zsome_makes_2 (strL r) (Sm ns b ps (M.map mkD) x4 x5 x6 x7) = .next (Sm ns b' ps (M'.map mkD) y4 y5 y6 y7) ∧ (∀ m ∈ M', MkOk m) ∧ (∀ m ∈ M', ∀ q ∈ m.df, numOk q.2) ∧ M'.map (·.part) = M.map (·.part) ++ r ∧ (∀ m ∈ M', T1 (mkD m) 150000 ∧ PyData.depth (mkD m) ≤ 8) := by
    intro r
    induction r with
    | nil =>
      intro b M x4 x5 x6 x7 _ tm _ _ _ _ ok nb _
      exact ⟨M, b, x4, x5, x6, x7, rfl, ok, nb, by rw [List.append_nil], tm⟩
    | cons p r ih =>
      intro b M x4 x5 x6 x7 tr tm s4 s5 s6 s7 ok nb hl
      simp only [List.length_cons] at hl
      obtain ⟨m, b1, y5, y6, y7, e1, t5, t6, t7, om, pm, nm, mt⟩ := make_step hn b ps p tp (tr p List.mem_cons_self) (M.map mkD) x5 x6 x7 s5 s6 s7 (by rw [List.length_map]; omega) (by omega)
      have em : M.map mkD ++ [mkD m] = (M ++ [m]).map mkD := by
        rw [List.map_append]
        rfl
      rw [em] at e1
      obtain ⟨M2, b2, z4, z5, z6, z7, e2, ok2, nb2, p2, tm2⟩ := ih b1 (M ++ [m]) (some (.val (.str p))) y5 y6 y7 (fun q m => tr q (List.mem_cons_of_mem _ m)) (fun r mr => by
        rcases List.mem_append.mp mr with z | z
        · exact tm r z
        · rw [List.mem_singleton.mp z]
          exact mt) rfl t5 t6 t7 (fun r mr => by
        rcases List.mem_append.mp mr with z | z
        · exact ok r z
        · rw [List.mem_singleton.mp z]
          exact om) (fun r mr => by
        rcases List.mem_append.mp mr with z | z
        · exact nb r z
        · rw [List.mem_singleton.mp z]
          exact nm) (by rw [List.length_append, List.length_singleton]; omega)
      refine ⟨M2, b2, z4, z5, z6, z7, ?_, ok2, nb2, ?_, tm2⟩
      · show sForL _ _ (PyData.str p :: strL r) _ = _
        have bn : bName 4 (.str p) (Sm ns b ps (M.map mkD) x4 x5 x6 x7) = some (Sm ns b ps (M.map mkD) (some (.val (.str p))) x5 x6 x7) := by
          unfold Sm
          generalize strL ns = N at *
          generalize strL ps = N3 at *
          generalize M.map mkD = X at *
          simp! [s4]
        rw [forL_cons, bn, for1_e, e1, for2_n]
        exact e2
      · rw [p2, List.map_append, List.append_assoc]
        show M.map (·.part) ++ ([m.part] ++ r) = _
        rw [pm]
        rfl
  obtain ⟨M, b', y4, y5, y6, y7, e, ok, nb, pp, tm⟩ := run ps b [] none none none none tp (fun m z => (by cases z)) rfl rfl rfl rfl (fun m z => by cases z) (fun m z => by cases z) (by simp only [List.length_nil]; omega)
  rw [List.map_nil, List.nil_append] at pp
  refine ⟨M, b', ?_, ⟨ok, by rw [pp]; exact nd, nb, tm⟩, pp⟩
  have hI : I_zsome_makes_2 (Sm ns b ps [] none none none none) = .ok (strL ps) (Sm ns b ps [] none none none none) := by
    unfold I_zsome_makes_2 Sm
    generalize strL ns = N at *
    generalize strL ps = N3 at *
    simp! []
  have hL : L_zsome_makes_2 (Sm ns b ps [] none none none none) = _ := for_gB hI e
  unfold m_zsome_makes
  rw [start _ _ _ _ (by rfl)]
  unfold F_zsome_makes
  unfold Sm at *
  generalize L_zsome_makes_2 = LL at *
  generalize strL ns = N at *
  generalize strL ps = N3 at *
  generalize M.map mkD = X at *
  simp! [hL]
/-! ### all that was handed in, copied -/
theorem copy_all {n : Nat} (ih : ∀ d, T1 d 1000000 → PyData.depth d < n → m_zcopy n [.val d] = .ok (.val d) [none]) {ds : List D} {m : Nat} (t : TA ds m) (hm : m ≤ 999995) (hd : PyData.depthAll ds < n) (X : D) (δ : DEnv) (hδ : δ = [some (.val X), none, none]) (E : Fe D) (hE : E = fV (m_zcopy n) (fCons (rdVar 1) fNil)) (I : Fe (List D)) (hI : I δ = .ok ds δ) :
    fComp [1] I (bName 1) fYes E δ = .ok (.list ds) δ := by
  subst hδ hE
  have e := comp_map (i := 1) (I := I) (T := fYes) (E := fV (m_zcopy n) (fCons (rdVar 1) fNil)) (δ := [some (.val X), none, none]) (δ1 := [some (.val X), none, none]) (ds := ds) (fun _ => true) id hI (by simp) rfl (by
    have := Fc.len_t t
    omega) (fun d md => by
    refine ⟨rfl, fun _ => ?_⟩
    have tc := ih d ((Fc.mem_t t md).mono (by omega)) (by
      have := Fc.mem_dp md
      omega)
    show (fV (m_zcopy n) (fCons (rdVar 1) fNil)) [some (.val X), some (.val d), none] = .ok d [some (.val X), some (.val d), none]
    generalize m_zcopy n = mc at *
    simp! [tc])
  rw [List.filter_eq_self.mpr (fun _ _ => rfl), List.map_id] at e
  exact e
theorem copy_e : ∀ (n : Nat) (d : D), T1 d 1000000 → PyData.depth d < n → m_zcopy n [.val d] = .ok (.val d) [none]
  | 0, d, _, h => by omega
  | n + 1, d, t, hd => by
    have ih := copy_e n
    show mir 1 3 (F_zcopy (m_zcopy n)) [.val d] = _
    rw [start _ _ _ _ (by rfl)]
    unfold F_zcopy
    cases d with
    | list ds =>
      have ta : TA ds (szTA ds) := ⟨by
        have := t.1
        simpa only [tinyB] using this, Nat.le_refl _⟩
      have hz := t.2
      simp only [Fc.szT] at hz
      simp only [PyData.depth] at hd
      have c := copy_all ih ta (by omega) (by omega) (.list ds) [some (.val (.list ds)), none, none] rfl (E_zcopy_1 (m_zcopy n)) rfl (I_zcopy_1 (m_zcopy n)) (by
        unfold I_zcopy_1
        simp! [])
      have c1 : C_zcopy_1 (m_zcopy n) [some (.val (.list ds)), none, none] = .ok (.list ds) [some (.val (.list ds)), none, none] := c
      generalize C_zcopy_1 (m_zcopy n) = C1 at *
      generalize C_zcopy_2 (m_zcopy n) = C2 at *
      simp! [c1]
    | tuple ds =>
      have ta : TA ds (szTA ds) := ⟨by
        have := t.1
        simpa only [tinyB] using this, Nat.le_refl _⟩
      have hz := t.2
      simp only [Fc.szT] at hz
      simp only [PyData.depth] at hd
      have c := copy_all ih ta (by omega) (by omega) (.tuple ds) [some (.val (.tuple ds)), none, none] rfl (E_zcopy_2 (m_zcopy n)) rfl (I_zcopy_2 (m_zcopy n)) (by
        unfold I_zcopy_2
        simp! [])
      have c2 : C_zcopy_2 (m_zcopy n) [some (.val (.tuple ds)), none, none] = .ok (.list ds) [some (.val (.tuple ds)), none, none] := c
      have tu : tupleF [.list ds] = some (.tuple ds) := rfl
      generalize C_zcopy_1 (m_zcopy n) = C1 at *
      generalize C_zcopy_2 (m_zcopy n) = C2 at *
      simp! [c2, tu]
    | dict ds =>
      have := t.1
      simp [tinyB] at this
    | none =>
      generalize C_zcopy_1 (m_zcopy n) = C1 at *
      generalize C_zcopy_2 (m_zcopy n) = C2 at *
      simp! []
    | bool _ =>
      generalize C_zcopy_1 (m_zcopy n) = C1 at *
      generalize C_zcopy_2 (m_zcopy n) = C2 at *
      simp! []
    | int _ =>
      generalize C_zcopy_1 (m_zcopy n) = C1 at *
      generalize C_zcopy_2 (m_zcopy n) = C2 at *
      simp! []
    | str _ =>
      generalize C_zcopy_1 (m_zcopy n) = C1 at *
      generalize C_zcopy_2 (m_zcopy n) = C2 at *
      simp! []
/-! ### the law -/
def allD (L : List Ly) (M : List Mk) : D := .list [.list (L.map lyD), .list (M.map mkD)]
theorem all_t {L : List Ly} {M : List Mk} (hL : LyOk L) (hM : MsOk M) (lL : L.length ≤ 13) (lM : M.length ≤ 5) : T1 (.list (L.map lyD)) 4000 ∧ T1 (.list (M.map mkD)) 760000 ∧ PyData.depth (.list (L.map lyD)) ≤ 9 ∧ PyData.depth (.list (M.map mkD)) ≤ 9 := by
  have a := TA.all (ds := L.map lyD) (k := 300) (fun d m => by
    obtain ⟨l, ml, rfl⟩ := List.mem_map.mp m
    exact hL.tl l ml)
  have c := TA.all (ds := M.map mkD) (k := 150000) (fun d m => by
    obtain ⟨l, ml, rfl⟩ := List.mem_map.mp m
    exact (hM.tm l ml).1)
  rw [List.length_map] at a c
  have da := Fc.dp_all (ds := L.map lyD) (k := 2) (fun d m => by
    obtain ⟨l, ml, rfl⟩ := List.mem_map.mp m
    simp [lyD, PyData.depth, PyData.depthAll])
  have dc := Fc.dp_all (ds := M.map mkD) (k := 8) (fun d m => by
    obtain ⟨l, ml, rfl⟩ := List.mem_map.mp m
    exact (hM.tm l ml).2)
  refine ⟨(T1.lst a).mono (by omega), (T1.lst c).mono (by omega), ?_, ?_⟩
  · simp only [PyData.depth]
    omega
  · simp only [PyData.depth]
    omega
theorem alike_all {L : List Ly} {M : List Mk} (hL : LyOk L) (hM : MsOk M) (lL : L.length ≤ 13) (lM : M.length ≤ 5) : m_zalike [.val (allD L M), .val (allD L M)] = .ok (.val (.bool true)) [none, none] := by
  obtain ⟨t1, t2, d1, d2⟩ := all_t hL hM lL lM
  have t := T1.lst (TA.cons t1 (TA.cons t2 TA.nil))
  have dp : PyData.depth (allD L M) ≤ 60 := by
    unfold allD
    simp only [PyData.depth, PyData.depthAll] at *
    omega
  rw [alike_m]
  exact Fc.alike_e (allD L M) (eqF_self t.plain dp) (t.repr dp (by omega))
abbrev Sl (s P : D) (ns : List Str) (b : Bg) (x4 : Option Cell) (L : List Ly) (M : List Mk) (x8 x9 : Option Cell) : DEnv :=
  [some (.val s), some (.own (bagD b)), some (.val P), some (.val (.list (strL ns))), x4, some (.val (.list (L.map lyD))), some (.val (.list (M.map mkD))), some (.val (allD L M)), x8, x9]
theorem ask_e (s P : D) (ns : List Str) (b : Bg) (x4 : Option Cell) (L : List Ly) (M : List Mk) (n : Str) (x9 : Option Cell) (s9 : soft x9 = true) (hL : LyOk L) (hM : MsOk M) (lL : L.length ≤ 13) (lM : M.length ≤ 5) :
    ∃ y9, Y_law_2 (Sl s P ns b x4 L M (some (.val (.str n))) x9) = .next (Sl s P ns b x4 L M (some (.val (.str n))) y9) ∧ soft y9 = true := by
  obtain ⟨o, e1, t⟩ := setting_ex n L M hM (by omega) (by omega)
  obtain ⟨o', e2, t'⟩ := zsetting_ex n L M hM (by omega) (by omega)
  have eo : o' = o := Told.one hL hM t' t
  subst eo
  have al := alike_o (o := o') (fun v e => Told.small (n := n) hL hM (e ▸ t))
  have aa := alike_all hL hM lL lM
  have i0 : itF (allD L M) (.int 0) = some (.list (L.map lyD)) := rfl
  have i1 : itF (allD L M) (.int 1) = some (.list (M.map mkD)) := rfl
  have ed : allD L M = .list [.list (L.map lyD), .list (M.map mkD)] := rfl
  have aa2 : m_zalike [.val (allD L M), .val (.list [.list (L.map lyD), .list (M.map mkD)])] = .ok (.val (.bool true)) [none, none] := aa
  refine ⟨some (.val (optD o')), ?_, rfl⟩
  unfold Y_law_2
  unfold Sl
  generalize allD L M = A at *
  generalize L.map lyD = X at *
  generalize M.map mkD = Y at *
  generalize strL ns = N at *
  generalize optD o' = r at *
  generalize m_setting_of = m1 at *
  generalize m_zsetting = m2 at *
  generalize m_zalike = m3 at *
  simp! [i0, i1, e1, e2, al, aa2, s9, Bool.not_true]
theorem turn_e (s : D) (ps ns : List Str) (hn : Nm ns) (nd : ps.Nodup) (lp : ps.length ≤ 5) (tp : ∀ q ∈ ps, TS q) (t : D) (b : Bg) (x5 x6 x7 x8 x9 : Option Cell) (s5 : soft x5 = true) (s6 : soft x6 = true) (s7 : soft x7 = true) (s8 : soft x8 = true) (s9 : soft x9 = true) :
    ∃ (b' : Bg) (y5 y6 y7 y8 y9 : Option Cell), Y_law_3 [some (.val s), some (.own (bagD b)), some (.val (.list (strL ps))), some (.val (.list (strL ns))), some (.val t), x5, x6, x7, x8, x9] =
      .next [some (.val s), some (.own (bagD b')), some (.val (.list (strL ps))), some (.val (.list (strL ns))), some (.val t), y5, y6, y7, y8, y9] ∧ soft y5 = true ∧ soft y6 = true ∧ soft y7 = true ∧ soft y8 = true ∧ soft y9 = true := by
  obtain ⟨L0, b1, e1, hL0, lL0⟩ := layers_ex hn b
  obtain ⟨ys, b2, e2, p2⟩ := Fc.turned_ex b1 (L0.map lyD) (by rw [List.length_map]; omega)
  obtain ⟨L, rfl, pL⟩ := perm_map p2 L0 rfl
  have hL := hL0.perm pL.symm
  have lL : L.length ≤ 13 := by rw [pL.length_eq]; exact lL0
  obtain ⟨M0, b3, e3, hM0, pM0⟩ := makes_ex hn b2 ps nd (by omega) tp
  have lM0 : M0.length = ps.length := by
    rw [← pM0, List.length_map]
  obtain ⟨zs, b4, e4, p4⟩ := Fc.turned_ex b3 (M0.map mkD) (by rw [List.length_map]; omega)
  obtain ⟨M, rfl, pM⟩ := perm_map p4 M0 rfl
  have hM := hM0.perm pM.symm
  have lM : M.length ≤ 5 := by rw [pM.length_eq]; omega
  obtain ⟨q1, q2, d1, d2⟩ := all_t hL hM lL lM
  have k1 := copy_e 12 (.list (L.map lyD)) (q1.mono (by omega)) (by omega)
  have k2 := copy_e 12 (.list (M.map mkD)) (q2.mono (by omega)) (by omega)
  have ln : (strL ns).length = ns.length := List.length_map _
  have lns := hn.ln
  have a5 := addF_l (a := strL ns) (c := [.str "zz"]) (by rw [ln]; simp only [List.length_singleton]; omega)
  have e5 : strL ns ++ [PyData.str "zz"] = strL (ns ++ [("zz" : Str)]) := by
    unfold Lf.strL
    rw [List.map_append]
    rfl
  obtain ⟨us, b5, e6, p6⟩ := Fc.turned_ex b4 (strL ns ++ [.str "zz"]) (by rw [List.length_append, ln]; simp only [List.length_singleton]; omega)
  have lu : us.length ≤ 4 := by
    rw [p6.length_eq, List.length_append, ln]
    simp only [List.length_singleton]
    omega
  have m6 := mulG_l (x := us) (k := 2) (by show us.length * 2 ≤ _; omega) (by omega)
  have hstr : ∀ d ∈ (List.replicate (2 : Int).toNat us).flatten, ∃ n, d = .str n := fun d md => by
    obtain ⟨l, ml, md⟩ := List.mem_flatten.mp md
    rw [List.eq_of_mem_replicate ml] at md
    have := p6.mem_iff.mp md
    rw [e5] at this
    obtain ⟨n, _, rfl⟩ := List.mem_map.mp this
    exact ⟨n, rfl⟩
  generalize (List.replicate (2 : Int).toNat us).flatten = R at *
  obtain ⟨δ', e7, y8, y9, rfl, t8, t9⟩ := forL_inv (B := bName 8) (F := Y_law_2) (fun δ => ∃ (y8 y9 : Option Cell), δ = Sl s (.list (strL ps)) ns b5 (some (.val t)) L M y8 y9 ∧ soft y8 = true ∧ soft y9 = true)
    R (Sl s (.list (strL ps)) ns b5 (some (.val t)) L M x8 x9) ⟨x8, x9, rfl, s8, s9⟩ (fun d md δ ⟨y8, y9, e, t8, t9⟩ => by
      subst e
      obtain ⟨n, rfl⟩ := hstr d md
      obtain ⟨z9, e, u9⟩ := ask_e s (.list (strL ps)) ns b5 (some (.val t)) L M n y9 t9 hL hM lL lM
      refine ⟨Sl s (.list (strL ps)) ns b5 (some (.val t)) L M (some (.val (.str n))) y9, ?_, _, .inl e, some (.val (.str n)), z9, rfl, rfl, u9⟩
      unfold Sl
      generalize allD L M = A at *
      generalize L.map lyD = X at *
      generalize M.map mkD = Y at *
      generalize strL ns = N at *
      generalize strL ps = P at *
      simp! [t8])
  refine ⟨b5, some (.val (.list (L.map lyD))), some (.val (.list (M.map mkD))), some (.val (allD L M)), y8, y9, ?_, rfl, rfl, rfl, t8, t9⟩
  have hI : I_law_2 (Sl s (.list (strL ps)) ns b4 (some (.val t)) L M x8 x9) = .ok R (Sl s (.list (strL ps)) ns b5 (some (.val t)) L M x8 x9) := by
    unfold I_law_2 Sl
    rw [turned_m]
    generalize allD L M = A at *
    generalize L.map lyD = X at *
    generalize M.map mkD = Y at *
    generalize strL ns ++ [PyData.str "zz"] = NZ at *
    generalize strL ns = N at *
    generalize strL ps = P at *
    generalize Fc.m_zturned = mt at *
    simp! [a5, e6, m6]
  have hL2 : L_law_2 (Sl s (.list (strL ps)) ns b4 (some (.val t)) L M x8 x9) = _ := for_gB hI e7
  have ea : PyData.list [.list (L.map lyD), .list (M.map mkD)] = allD L M := rfl
  clear e7 hI hstr
  unfold Y_law_3
  rw [turned_m]
  unfold Sl at *
  generalize allD L M = A at *
  generalize L.map lyD = X at *
  generalize M.map mkD = Y at *
  generalize L0.map lyD = X0 at *
  generalize M0.map mkD = Y0 at *
  generalize strL ns = N at *
  generalize strL ps = P at *
  generalize Fc.m_zturned = mt at *
  generalize m_zlayers = m1 at *
  generalize m_zsome_makes = m2 at *
  generalize m_zcopy 12 = m3 at *
  generalize L_law_2 = LL at *
  simp! [e1, e2, e3, e4, k1, k2, ea, hL2, s5, s6, s7]
theorem ni_two (w : Str) : niF (.str w) (.tuple [.str "a", .str "b"]) = some (.bool (!decide (w ∈ (["a", "b"] : List Str)))) := by
  have h : hasF (.str w) (.tuple [.str "a", .str "b"]) = some (decide (w ∈ (["a", "b"] : List Str))) := by
    rw [hasF_t, if_pos ⟨rfl, rfl, by simp [PyData.depth]⟩]
    congr 1
    show (PyData.eqv (.str "a") (.str w) || (PyData.eqv (.str "b") (.str w) || false)) = _
    rw [Lo.ev_s, Lo.ev_s]
    by_cases h1 : ("a" : Str) = w
    · rw [dt h1, dt (show w ∈ (["a", "b"] : List Str) from h1 ▸ List.mem_cons_self)]
      rfl
    · by_cases h2 : ("b" : Str) = w
      · rw [df h1, dt h2, dt (show w ∈ (["a", "b"] : List Str) from h2 ▸ List.mem_cons_of_mem _ List.mem_cons_self)]
        rfl
      · rw [df h1, df h2, df (fun z => by
          rcases List.mem_cons.mp z with z | z
          · exact h1 z.symm
          · rcases List.mem_cons.mp z with z | z
            · exact h2 z.symm
            · cases z)]
        rfl
  show (hasF (.str w) (.tuple [.str "a", .str "b"])).map _ = _
  rw [h]
  rfl
theorem law_g (mb mn mt : Mir) (C : Fe D) (L : Fs) (s d1 d2 d3 d4 ps : D) (ws ns : List D) (v : Int) (δ' : DEnv) (e0 : mb [.val s] = .ok (.own d1) [none]) (e1 : mt [.ref d1, .val (.int 5)] = .ok (.val (.int v)) [some (.ref d2), none]) (e2 : mn [.ref d2, .val (.int (1 + v))] = .ok (.val ps) [some (.ref d3), none])
    (ec : C [some (.val s), some (.own d3), some (.val ps), none, none, none, none, none, none, none] = .ok (.list ws) [some (.val s), some (.own d4), some (.val ps), none, none, none, none, none, none, none]) (ad : addF (.list [.str "a", .str "b"]) (.list ws) = some (.list ns)) (hs : ∃ x1 r, δ' = some (.val s) :: x1 :: r)
    (e3 : L [some (.val s), some (.own d4), some (.val ps), some (.val (.list ns)), none, none, none, none, none, none] = .next δ') :
    mir 1 10 (sSeq (sSetO 1 (fVO mb (fCons (rdVar 0) fNil))) (sSeq (sSet 2 (fR mn 0 1 toVal (apHead 1 (fCons (fBin addF (fOf (fC (.int 1))) (fOf (fR mt 0 1 toVal (apHead 1 (fCons (fC (.int 5)) fNil))))) fNil))))
      (sSeq (sSet 3 (fBin addF (fOf (fLst (fCons (fC (.str "a")) (fCons (fC (.str "b")) fNil)))) (fOf C))) (sSeq L (sRet (fC (.bool true))))))) [.val s] = .ok (.val (.bool true)) [none] := by
  obtain ⟨x1, r, rfl⟩ := hs
  rw [start _ _ _ _ (by rfl)]
  simp! [e0, e1, e2, ec, ad, e3]
theorem law_true (ns : List Int) (hn : ns.length ≤ 63) (hb : ∀ z ∈ ns, Builtin.Int.intBits z ≤ 1048576) : m_law [.val (scriptD ns)] = .ok (.val (.bool true)) [none] := by
  have be := Bag.bag_e ns hn
  rw [← bag_m] at be
  generalize hs : scriptD ns = s at be
  have t1 := take_e (Bag.bag0 ns) 5 (by omega) (by omega)
  have a1 := takeV_nn (b := Bag.bag0 ns) (m := 5) (by omega)
  have a2 := takeV_lt (b := Bag.bag0 ns) (m := 5) (by omega)
  generalize takeV (Bag.bag0 ns) 5 = v at *
  generalize takeB (Bag.bag0 ns) 5 = b1 at *
  obtain ⟨ps, b2, e2, nd, lp, wp⟩ := Fc.names_ex b1 (1 + v) (by omega) (by omega)
  obtain ⟨ws, b3, e3, nd3, lp3, wp3⟩ := Fc.names_ex b2 1 (by omega) (by omega)
  have cw : C_law_1 [some (.val s), some (.own (bagD b2)), some (.val (.list (strL ps))), none, none, none, none, none, none, none] = .ok (.list (strL (ws.filter fun w => !decide (w ∈ (["a", "b"] : List Str))))) [some (.val s), some (.own (bagD b3)), some (.val (.list (strL ps))), none, none, none, none, none, none, none] := by
    have e := comp_enc (i := 8) (I := I_law_1) (T := T_law_1) (E := E_law_1) (δ := [some (.val s), some (.own (bagD b2)), some (.val (.list (strL ps))), none, none, none, none, none, none, none]) (δ1 := [some (.val s), some (.own (bagD b3)), some (.val (.list (strL ps))), none, none, none, none, none, none, none]) (xs := ws) PyData.str (fun w => !decide (w ∈ (["a", "b"] : List Str))) PyData.str (by
      have e3' : Fc.m_znames [.ref (bagD b2), .val (.int 1)] = .ok (.val (.list (ws.map PyData.str))) [some (.ref (bagD b3)), none] := e3
      unfold I_law_1
      rw [names_m]
      generalize Fc.m_znames = mn at *
      generalize ws.map PyData.str = W at *
      generalize strL ps = P at *
      simp! [e3']) (by simp) rfl (by omega) (fun w _ => by
      have ni := ni_two w
      refine ⟨?_, fun _ => ?_⟩
      · show T_law_1 [some (.val s), some (.own (bagD b3)), some (.val (.list (strL ps))), none, none, none, none, none, some (.val (.str w)), none] = .ok (!decide (w ∈ (["a", "b"] : List Str))) [some (.val s), some (.own (bagD b3)), some (.val (.list (strL ps))), none, none, none, none, none, some (.val (.str w)), none]
        generalize (!decide (w ∈ (["a", "b"] : List Str))) = g at *
        generalize strL ps = P at *
        unfold T_law_1
        simp! [ni]
      · rfl)
    exact e
  generalize hw : (ws.filter fun w => !decide (w ∈ (["a", "b"] : List Str))) = w2 at *
  have l2 : w2.length ≤ 1 := by
    rw [← hw]
    have := List.length_filter_le (fun w => !decide (w ∈ (["a", "b"] : List Str))) ws
    omega
  have Hd : ((["a", "b"] : List Str) ++ w2).Nodup := by
    refine List.nodup_append.mpr ⟨by decide +kernel, ?_, fun a ma c mc z => ?_⟩
    · rw [← hw]
      exact nd3.sublist List.filter_sublist
    · rw [← hw] at mc
      have h := (List.mem_filter.mp mc).2
      rw [← z, dt ma] at h
      exact Bool.false_ne_true h
  have Hl : ((["a", "b"] : List Str) ++ w2).length ≤ 3 := by
    rw [List.length_append]
    simp only [List.length_cons, List.length_nil]
    omega
  have Ht : ∀ n ∈ (["a", "b"] : List Str) ++ w2, TS n := fun n m => by
    rcases List.mem_append.mp m with m | m
    · exact Fc.two_t m
    · rw [← hw] at m
      exact Fc.isw_t (wp3 n (List.mem_filter.mp m).1)
  have Hn : Nm ((["a", "b"] : List Str) ++ w2) := ⟨by simp, Hd, Hl, Ht⟩
  clear Hd Hl Ht
  have ad : addF (.list [.str "a", .str "b"]) (.list (strL w2)) = some (.list (strL ((["a", "b"] : List Str) ++ w2))) := by
    have := addF_l (a := [.str "a", .str "b"]) (c := strL w2) (by
      have : (strL w2).length = w2.length := List.length_map _
      rw [this]
      simp only [List.length_cons, List.length_nil]
      omega)
    rw [this]
    unfold Lf.strL
    rw [List.map_append]
    rfl
  generalize (["a", "b"] : List Str) ++ w2 = nn at *
  obtain ⟨δ', e, b', x4, x5, x6, x7, x8, x9, rfl, _⟩ := forL_inv (B := bName 4) (F := Y_law_3) (fun δ => ∃ (b : Bg) (x4 x5 x6 x7 x8 x9 : Option Cell), δ = [some (.val s), some (.own (bagD b)), some (.val (.list (strL ps))), some (.val (.list (strL nn))), x4, x5, x6, x7, x8, x9] ∧ soft x4 = true ∧ soft x5 = true ∧ soft x6 = true ∧ soft x7 = true ∧ soft x8 = true ∧ soft x9 = true)
    (rngL 0 4) [some (.val s), some (.own (bagD b3)), some (.val (.list (strL ps))), some (.val (.list (strL nn))), none, none, none, none, none, none] ⟨_, _, _, _, _, _, _, rfl, rfl, rfl, rfl, rfl, rfl, rfl⟩
    (fun d _ δ ⟨b, x4, x5, x6, x7, x8, x9, e, s4, s5, s6, s7, s8, s9⟩ => by
      subst e
      obtain ⟨b', y5, y6, y7, y8, y9, e, t5, t6, t7, t8, t9⟩ := turn_e s ps nn Hn nd (by omega) (fun q m => Fc.isw_t (wp q m)) d b x5 x6 x7 x8 x9 s5 s6 s7 s8 s9
      refine ⟨[some (.val s), some (.own (bagD b)), some (.val (.list (strL ps))), some (.val (.list (strL nn))), some (.val d), x5, x6, x7, x8, x9], ?_, _, .inl e, _, _, _, _, _, _, _, rfl, rfl, t5, t6, t7, t8, t9⟩
      generalize strL nn = N at *
      generalize strL ps = N2 at *
      simp! [s4])
  refine law_g m_zbag m_znames m_ztake C_law_1 L_law_3 s _ (bagD b1) (bagD b2) (bagD b3) (.list (strL ps)) (strL w2) (strL nn) v [some (.val s), some (.own (bagD b')), some (.val (.list (strL ps))), some (.val (.list (strL nn))), x4, x5, x6, x7, x8, x9] be (by rw [take_m]; exact t1) (by rw [names_m]; exact e2) cw ad ⟨_, _, rfl⟩ ?_
  show sFor I_law_3 (bName 4) Y_law_3 _ = _
  exact for_gB (l := rngL 0 4) rfl e
end k61

open PySem PySem.W PySem.Calls PyProof.Rows
theorem PySem.Challenge.cw_plughall_k61_setting_told_holds : PySem.Challenge.rw_plughall_k61_setting_told.Holds := by
  w_on; o_law
  refine HandSHeadRun.head_any (r := k61.R) (q := view k61.R.prog [24]) (H := k61.hk) (ob := k61.ob) (M := 1900) (loose := k61.loose) (d := HandSHeadRun.topDef k61.R.prog 24) (kwd := []) k61.ob_eq
    (by kernel_rfl) (fun s => by kernel_rfl) k61.run (by kernel_rfl) (by kernel_rfl) (by kernel_rfl) (by rfl) (by first | assumption | decide +kernel) (by decide +kernel) ⟨rfl, rfl, rfl, rfl, rfl, by decide +kernel⟩ ?hw ?hc
  case hw => w_witness2
  case hc =>
    refine Dl.law_endT (l := PySem.Challenge.rw_plughall_k61_setting_told) (n := 63) (k := 14) (x := "_law_script") (m := k61.m_law) rfl (by decide) (by kernel_rfl) ⟨rfl, by decide, by decide⟩ ?F k61.law_true
    intro w mg fa h Y G hmg0
    obtain ⟨K, KX, c, cx, ct, ck⟩ := Y
    have hmg : mg ("law" : PySem.Str) = some (.ref fa) := by
      have e : (HandSHeadRun.topDef k61.R.prog 24).name = ("law" : PySem.Str) := by kernel_rfl
      rw [← e]
      exact hmg0
    obtain ⟨fd, c, Pt, h1, h2, h3, hb, hF⟩ := k61.facts (P := (PySem.Challenge.rw_plughall_k61_setting_told).prog) (w := w) KX G hmg c cx ct ck G
    exact ⟨K, fd, c, Pt, k61.nmT, KX, h1, h2, h3, hb, hF⟩
